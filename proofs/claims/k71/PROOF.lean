import PyProof.Rows.All
import Wide.All
import OpenK.AllK
import Wide.FinOn
import HandS.Base
import HandS.Call
import HandS.List
import HandS.Comp
import HandS.Ends
import HandS.Iter
import HandS.Text
import HandS.More
import HandS.Exc
import HandS.Words
import HandS.WordsList
import HandS.WordsExc
import HandS.Defaults
import HandS.TryOnly
import HandS.ExcOwn
import HandS.IsInst
import HandS.Flow
import HandS.Style
import HandS.TupAny
import HandS.Zip
import HandS.RaiseMore
import HandS.TupMul
import HandS.Conv
import HandS.TupLe
import HandS.Wide
import HandS.WideBits
import HandS.Deep
import HandS.SortInts
import HandS.SetFor
import KE.KTupSum
import KE.DataMinMax
import KE.KSortTupG
import KE.KSortTupUse
import PyProof.P3In
import HandS.SortRule
import KE.GoesEnum
import HandS.Head0
import HandS.Head1
import HandS.Head2
import HandS.HeadEnd
import HandS.HeadHook1
import HandS.HeadHook2
import PySem.Challenge.RW_reckonhall_k71_whole_bernoullis_numbers
set_option Elab.async false
set_option linter.all false
set_option maxRecDepth 100000
set_option maxHeartbeats 0
namespace RK
open PySem L2
/-! ## data -/
inductive D where
  | non | bl (b : Bool) | int (i : Int) | str (x : Str) | tup (ds : List D) | lst (ds : List D) | fn (k : Nat) | ty (n : String) | sc (ns : List Int)
mutual
def D.py : D → PyData
  | .non => .none | .bl b => .bool b | .int i => .int i | .str x => .str x
  | .tup ds => .tuple (pys ds) | .lst ds => .list (pys ds) | .fn _ => .none | .ty _ => .none | .sc _ => .none
def pys : List D → List PyData
  | [] => []
  | d :: r => d.py :: pys r
end
mutual
/-- plain data: no function, no class in it -/
def D.pl : D → Bool
  | .non => true | .bl _ => true | .int _ => true | .str x => PyData.strOk x
  | .tup ds => pls ds | .lst ds => pls ds | .fn _ => false | .ty _ => false | .sc _ => false
def pls : List D → Bool
  | [] => true
  | d :: r => d.pl && pls r
end
theorem pys_map : ∀ ds : List D, pys ds = ds.map D.py
  | [] => rfl
  | d :: r => by simp only [pys, List.map_cons, pys_map r]
theorem pls_all : ∀ ds : List D, pls ds = ds.all D.pl
  | [] => rfl
  | d :: r => by simp only [pls, List.all_cons, pls_all r]
mutual
inductive Rep (K : PySem.W.Frag) (fa : Nat → Addr) (H : Hp) : V → D → Prop
  | non : Rep K fa H .non .non
  | bl (b : Bool) : Rep K fa H (.bl b) (.bl b)
  | int (i : Int) : Rep K fa H (.int i) (.int i)
  | str (x : Str) : Rep K fa H (.str x) (.str x)
  | ty (n : String) : Rep K fa H (.ty n) (.ty n)
  | fn (k : Nat) : Rep K fa H (.ref (fa k)) (.fn k)
  | tup {a : Addr} {vs : List V} {ds : List D} : SqT K H a vs → Reps K fa H vs ds → Rep K fa H (.ref a) (.tup ds)
  | sc {a : Addr} {ns : List Int} : SqL K H a (ns.map V.int) → Rep K fa H (.ref a) (.sc ns)
  | lst {a : Addr} {vs : List V} {ds : List D} : H a = some (.lst vs) → Reps K fa H vs ds → Rep K fa H (.ref a) (.lst ds)
inductive Reps (K : PySem.W.Frag) (fa : Nat → Addr) (H : Hp) : List V → List D → Prop
  | nil : Reps K fa H [] []
  | cons {v : V} {vs : List V} {d : D} {ds : List D} : Rep K fa H v d → Reps K fa H vs ds → Reps K fa H (v :: vs) (d :: ds)
end
/-- one heap within another -/
def Le (H H' : Hp) : Prop := ∀ a o, H a = some o → H' a = some o
theorem Le.refl (H : Hp) : Le H H := fun _ _ h => h
theorem Le.trans {H H1 H2 : Hp} (a : Le H H1) (b : Le H1 H2) : Le H H2 := fun x o h => b x o (a x o h)
theorem Le.sqT {K : PySem.W.Frag} {H H' : Hp} (l : Le H H') {a : Addr} {vs : List V} (h : SqT K H a vs) : SqT K H' a vs := by
  rcases h with (h | ⟨o, h⟩) | h
  · exact .inl (.inl (l _ _ h))
  · exact .inl (.inr ⟨o, l _ _ h⟩)
  · exact .inr h
theorem Le.sqL {K : PySem.W.Frag} {H H' : Hp} (l : Le H H') {a : Addr} {vs : List V} (h : SqL K H a vs) : SqL K H' a vs := by
  rcases h with (h | ⟨o, h⟩) | h
  · exact .inl (.inl (l _ _ h))
  · exact .inl (.inr ⟨o, l _ _ h⟩)
  · exact .inr h
section
variable {K : PySem.W.Frag} {fa : Nat → Addr} {H H' : Hp}
mutual
theorem Rep.le (l : Le H H') : ∀ {v : V} {d : D}, Rep K fa H v d → Rep K fa H' v d
  | _, _, .non => .non
  | _, _, .bl b => .bl b
  | _, _, .int i => .int i
  | _, _, .str x => .str x
  | _, _, .ty n => .ty n
  | _, _, .fn k => .fn k
  | _, _, .tup h r => .tup (l.sqT h) (Reps.le l r)
  | _, _, .sc h => .sc (l.sqL h)
  | _, _, .lst h r => .lst (l _ _ h) (Reps.le l r)
theorem Reps.le (l : Le H H') : ∀ {vs : List V} {ds : List D}, Reps K fa H vs ds → Reps K fa H' vs ds
  | _, _, .nil => .nil
  | _, _, .cons h r => .cons (Rep.le l h) (Reps.le l r)
end
theorem Reps.length : ∀ {vs : List V} {ds : List D}, Reps K fa H vs ds → vs.length = ds.length
  | _, _, .nil => rfl
  | _, _, .cons _ r => by simp only [List.length_cons, Reps.length r]
theorem Reps.get : ∀ {vs : List V} {ds : List D} {i : Nat} {d : D}, Reps K fa H vs ds → ds[i]? = some d → ∃ v, vs[i]? = some v ∧ Rep K fa H v d
  | _, _, _, _, .nil, e => by simp at e
  | _, _, 0, _, .cons h _, e => by simp at e; subst e; exact ⟨_, rfl, h⟩
  | _, _, i + 1, _, .cons _ r, e => by
    obtain ⟨v, h1, h2⟩ := Reps.get (i := i) r (by simpa using e)
    exact ⟨v, by simpa using h1, h2⟩
theorem Reps.getV : ∀ {vs : List V} {ds : List D} {i : Nat} {v : V}, Reps K fa H vs ds → vs[i]? = some v → ∃ d, ds[i]? = some d ∧ Rep K fa H v d
  | _, _, _, _, .nil, e => by simp at e
  | _, _, 0, _, .cons h _, e => by simp at e; subst e; exact ⟨_, rfl, h⟩
  | _, _, i + 1, _, .cons _ r, e => by
    obtain ⟨v, h1, h2⟩ := Reps.getV (i := i) r (by simpa using e)
    exact ⟨v, by simpa using h1, h2⟩
theorem Reps.append : ∀ {vs ws : List V} {ds es : List D}, Reps K fa H vs ds → Reps K fa H ws es → Reps K fa H (vs ++ ws) (ds ++ es)
  | _, _, _, _, .nil, r => r
  | _, _, _, _, .cons h t, r => .cons h (Reps.append t r)
theorem Reps.set {v : V} {d : D} (h : Rep K fa H v d) : ∀ {vs : List V} {ds : List D} (i : Nat), Reps K fa H vs ds → Reps K fa H (vs.set i v) (ds.set i d)
  | _, _, _, .nil => .nil
  | _, _, 0, .cons _ t => .cons h t
  | _, _, i + 1, .cons q t => .cons q (Reps.set h i t)
theorem Reps.take : ∀ {vs : List V} {ds : List D} (n : Nat), Reps K fa H vs ds → Reps K fa H (vs.take n) (ds.take n)
  | _, _, 0, _ => by simp; exact .nil
  | _, _, _ + 1, .nil => .nil
  | _, _, n + 1, .cons h t => .cons h (Reps.take n t)
theorem Reps.drop : ∀ {vs : List V} {ds : List D} (n : Nat), Reps K fa H vs ds → Reps K fa H (vs.drop n) (ds.drop n)
  | _, _, 0, r => r
  | _, _, _ + 1, .nil => .nil
  | _, _, n + 1, .cons _ t => Reps.drop n t
theorem Reps.eraseIdx : ∀ {vs : List V} {ds : List D} (n : Nat), Reps K fa H vs ds → Reps K fa H (vs.eraseIdx n) (ds.eraseIdx n)
  | _, _, _, .nil => .nil
  | _, _, 0, .cons _ t => t
  | _, _, n + 1, .cons h t => .cons h (Reps.eraseIdx n t)
theorem Reps.reverse : ∀ {vs : List V} {ds : List D}, Reps K fa H vs ds → Reps K fa H vs.reverse ds.reverse
  | _, _, .nil => .nil
  | _, _, .cons h t => by simp only [List.reverse_cons]; exact (Reps.reverse t).append (.cons h .nil)
theorem Reps.rep {vs : List V} {ds : List D} (h : Reps K fa H vs ds) : ∀ n : Nat, Reps K fa H (List.replicate n vs).flatten (List.replicate n ds).flatten
  | 0 => by simp; exact .nil
  | n + 1 => by simp only [List.replicate_succ, List.flatten_cons]; exact h.append (Reps.rep h n)
theorem Reps.dropLast : ∀ {vs : List V} {ds : List D}, Reps K fa H vs ds → Reps K fa H vs.dropLast ds.dropLast
  | _, _, h => by rw [List.dropLast_eq_take, List.dropLast_eq_take, h.length]; exact h.take _
mutual
theorem Rep.dp : ∀ {v : V} {d : D}, Rep K fa H v d → d.pl = true → Dp K H v d.py
  | _, _, .non, _ => .non
  | _, _, .bl b, _ => .bl b
  | _, _, .int i, _ => .int i
  | _, _, .str x, _ => .str x
  | _, _, .ty n, e => by simp [D.pl] at e
  | _, _, .fn k, e => by simp [D.pl] at e
  | _, _, .tup h r, e => .tup h (Reps.dp r e)
  | _, _, .sc h, e => by simp [D.pl] at e
  | _, _, .lst h r, e => .lst (.inl (.inl h)) (Reps.dp r e)
theorem Reps.dp : ∀ {vs : List V} {ds : List D}, Reps K fa H vs ds → pls ds = true → DpAll K H vs (pys ds)
  | _, _, .nil, _ => .nil
  | _, _, .cons h r, e => by
    simp only [pls, Bool.and_eq_true] at e
    exact .cons (Rep.dp h e.1) (Reps.dp r e.2)
end
end
theorem reps_ints {K : PySem.W.Frag} {fa : Nat → Addr} {H : Hp} : ∀ ns : List Int, Reps K fa H (ns.map V.int) (ns.map D.int)
  | [] => .nil
  | n :: r => .cons (.int n) (reps_ints r)
theorem ints_of_reps {K : PySem.W.Frag} {fa : Nat → Addr} {H : Hp} : ∀ {vs : List V} {ns : List Int}, Reps K fa H vs (ns.map D.int) → vs = ns.map V.int
  | _, [], h => by cases h; rfl
  | _, n :: r, h => by
    cases h with
    | cons a b => cases a; rw [ints_of_reps b]; rfl
/-! ## environments -/
inductive Sl where
  | no | v (d : D) | ow (ds : List D) | io (ds : List D)
/-- a result: data; what slot i holds (a list of its own); a new list -/
inductive R where
  | v (d : D) | b (i : Nat) | f (ds : List D)
abbrev En := List Sl
def gSl : Option Sl → D
  | some (.v d) => d
  | some (.ow ds) => .lst ds
  | some (.io ds) => .lst ds
  | _ => .non
def get (ρ : En) : R → D
  | .v d => d
  | .f ds => .lst ds
  | .b i => gSl ρ[i]?
/-- what stays the same through a def's body -/
structure Fc where
  K : PySem.W.Frag
  fa : Nat → Addr
  Hf0 : Hp
  H0 : Hp
  ios : List (Nat × Addr)
def SlOk (F : Fc) (Hf H : Hp) (i : Nat) : Sl → Option (Option V) → Prop
  | .no, _ => True
  | .v d, x => ∃ v, x = some (some v) ∧ Rep F.K F.fa Hf v d
  | .ow ds, x => ∃ a vs, x = some (some (V.ref a)) ∧ H a = some (.lst vs) ∧ Hf a = none ∧ Reps F.K F.fa Hf vs ds ∧ F.H0 a = none
  | .io ds, x => ∃ a vs, x = some (some (V.ref a)) ∧ H a = some (.lst vs) ∧ Hf a = none ∧ Reps F.K F.fa Hf vs ds ∧ (i, a) ∈ F.ios
def isOwn : Option Sl → Bool
  | some (.ow _) => true
  | some (.io _) => true
  | _ => false
structure Rel (F : Fc) (Hf H : Hp) (σ : St) (ρ : En) : Prop where
  len : σ.length = ρ.length
  sub : Le Hf H
  base : Le F.Hf0 Hf
  keep : ∀ a o, F.H0 a = some o → F.Hf0 a = none → (∀ i, (i, a) ∉ F.ios) → H a = some o ∧ Hf a = none
  iok : ∀ i a, (i, a) ∈ F.ios → Hf a = none ∧ H a ≠ none ∧ F.H0 a ≠ none
  slot : ∀ (i : Nat) (s : Sl), ρ[i]? = some s → SlOk F Hf H i s σ[i]?
  dist : ∀ (i j : Nat) (a : Addr), i ≠ j → isOwn ρ[i]? = true → isOwn ρ[j]? = true → σ[i]? = some (some (V.ref a)) → σ[j]? = some (some (V.ref a)) → False
/-- a result's value; Hs: the heap where its reckoning began (what is new was not there) -/
def RepR (F : Fc) (Hs Hf H : Hp) (σ : St) (ρ : En) (v : V) : R → Prop
  | .v d => Rep F.K F.fa Hf v d
  | .b i => σ[i]? = some (some v) ∧ (∃ s, ρ[i]? = some s ∧ s ≠ .no)
  | .f ds => ∃ a vs, v = .ref a ∧ H a = some (.lst vs) ∧ Hf a = none ∧ Reps F.K F.fa Hf vs ds ∧ Hs a = none
section
variable {F : Fc} {Hs Hf H Hf' H' : Hp} {σ : St} {ρ ρ' : En} {v : V}
/-- read in the heap as it stands -/
theorem RepR.rep {r : R} (q : Rel F Hf H σ ρ) (h : RepR F Hs Hf H σ ρ v r) : Rep F.K F.fa H v (get ρ r) := by
  cases r with
  | v d => exact Rep.le q.sub h
  | b i =>
    obtain ⟨h1, s, hs, ne⟩ := h
    have := q.slot i s hs
    show Rep _ _ _ _ (gSl ρ[i]?)
    rw [hs]
    cases s with
    | no => exact absurd rfl ne
    | v d =>
      obtain ⟨w, e, r⟩ := this
      rw [h1] at e; cases e
      exact Rep.le q.sub r
    | ow ds =>
      obtain ⟨a, vs, e, e1, e2, r, _⟩ := this
      rw [h1] at e; cases e
      exact .lst e1 (Reps.le q.sub r)
    | io ds =>
      obtain ⟨a, vs, e, e1, e2, r, _⟩ := this
      rw [h1] at e; cases e
      exact .lst e1 (Reps.le q.sub r)
  | f ds =>
    obtain ⟨a, vs, e, e1, e2, r, _⟩ := h
    subst e
    exact .lst e1 (Reps.le q.sub r)
theorem Rel.dom0 (q : Rel F Hf H σ ρ) {a : Addr} (h : H a = none) : F.H0 a = none := by
  cases e : F.H0 a with
  | none => rfl
  | some o =>
    cases e1 : F.Hf0 a with
    | some w => have := q.sub a w (q.base a w e1); rw [h] at this; cases this
    | none =>
      by_cases hi : ∃ i, (i, a) ∈ F.ios
      · obtain ⟨i, hi⟩ := hi
        exact absurd h (q.iok i a hi).2.1
      · have := (q.keep a o e e1 fun i z => hi ⟨i, z⟩).1
        rw [h] at this; cases this
/-- what slot i owns stands in the heap, and is not constant -/
theorem Rel.owns (q : Rel F Hf H σ ρ) {i : Nat} {a : Addr} (h : isOwn ρ[i]? = true) (e : σ[i]? = some (some (V.ref a))) : ∃ vs ds, H a = some (.lst vs) ∧ Hf a = none ∧ Reps F.K F.fa Hf vs ds ∧ (ρ[i]? = some (.ow ds) ∨ ρ[i]? = some (.io ds)) := by
  cases hs : ρ[i]? with
  | none => rw [hs] at h; cases h
  | some s =>
    have := q.slot i s hs
    cases s with
    | no => rw [hs] at h; cases h
    | v d => rw [hs] at h; cases h
    | ow ds =>
      obtain ⟨b, vs, e', e1, e2, r, _⟩ := this
      rw [e] at e'; cases e'
      exact ⟨vs, ds, e1, e2, r, .inl rfl⟩
    | io ds =>
      obtain ⟨b, vs, e', e1, e2, r, _⟩ := this
      rw [e] at e'; cases e'
      exact ⟨vs, ds, e1, e2, r, .inr rfl⟩
/-- from the beginning of an expression to some point in it: the slots are as they were -/
structure Step (σ : St) (ρ ρ' : En) (Hf H Hf' H' : Hp) : Prop where
  le : Le Hf Hf'
  out : ∀ a o, H a = some o → Hf a = none → (∀ i : Nat, isOwn ρ[i]? = true → σ[i]? ≠ some (some (V.ref a))) → H' a = some o ∧ Hf' a = none
  own : ∀ i : Nat, isOwn ρ'[i]? = true → isOwn ρ[i]? = true
  live : ∀ (i : Nat) (s : Sl), ρ[i]? = some s → s ≠ .no → ∃ s', ρ'[i]? = some s' ∧ s' ≠ .no
  dom : ∀ a, H' a = none → H a = none
theorem Step.refl : Step σ ρ ρ Hf H Hf H := ⟨Le.refl _, fun _ _ h1 h2 _ => ⟨h1, h2⟩, fun _ h => h, fun _ s h n => ⟨s, h, n⟩, fun _ h => h⟩
theorem Step.trans {ρ1 ρ2 : En} {Hf1 H1 Hf2 H2 : Hp} (a : Step σ ρ ρ1 Hf H Hf1 H1) (b : Step σ ρ1 ρ2 Hf1 H1 Hf2 H2) : Step σ ρ ρ2 Hf H Hf2 H2 where
  le := a.le.trans b.le
  out := fun x o h1 h2 h3 => by
    obtain ⟨k1, k2⟩ := a.out x o h1 h2 h3
    exact b.out x o k1 k2 fun i hi => h3 i (a.own i hi)
  own := fun i h => a.own i (b.own i h)
  live := fun i s h n => by
    obtain ⟨s', h', n'⟩ := a.live i s h n
    exact b.live i s' h' n'
  dom := fun x h => a.dom x (b.dom x h)
/-- what is new belongs to no slot -/
theorem RepR.notOwn {ρ0 : En} {Hf0 : Hp} {ds : List D} {a : Addr} (q0 : Rel F Hf0 Hs σ ρ0) (S : Step σ ρ0 ρ Hf0 Hs Hf H) (h : Hs a = none) (i : Nat) (hi : isOwn ρ[i]? = true) : σ[i]? ≠ some (some (V.ref a)) := fun e => by
  obtain ⟨vs, _, e1, _⟩ := q0.owns (S.own i hi) e
  rw [h] at e1; cases e1
/-- a result is what it was, some steps later -/
theorem RepR.step {ρ0 ρ1 ρ2 : En} {Hf0 Hf1 H1 Hf2 H2 : Hp} {r : R} (q0 : Rel F Hf0 Hs σ ρ0) (S0 : Step σ ρ0 ρ1 Hf0 Hs Hf1 H1) (h : RepR F Hs Hf1 H1 σ ρ1 v r) (S : Step σ ρ1 ρ2 Hf1 H1 Hf2 H2) : RepR F Hs Hf2 H2 σ ρ2 v r := by
  cases r with
  | v d => exact Rep.le S.le h
  | b i =>
    obtain ⟨h1, s, hs, ne⟩ := h
    exact ⟨h1, S.live i s hs ne⟩
  | f ds =>
    obtain ⟨a, vs, e, e1, e2, r, e3⟩ := h
    obtain ⟨k1, k2⟩ := S.out a _ e1 e2 fun i hi => RepR.notOwn (ds := ds) q0 S0 e3 i hi
    exact ⟨a, vs, e, k1, k2, Reps.le S.le r, e3⟩
theorem RepR.from {Hs' : Hp} {r : R} (h : RepR F Hs' Hf H σ ρ v r) (d : ∀ a, Hs' a = none → Hs a = none) : RepR F Hs Hf H σ ρ v r := by
  cases r with
  | v d => exact h
  | b i => exact h
  | f ds =>
    obtain ⟨a, vs, e, e1, e2, r, e3⟩ := h
    exact ⟨a, vs, e, e1, e2, r, d a e3⟩
theorem le_upd {Hf : Hp} {a : Addr} {o : HO} (h : Hf a = none) : Le Hf (upd Hf a o) := fun b u e => by
  rw [upd_ne (ne_of_none e h)]; exact e
theorem upd_le {Hf H : Hp} {a : Addr} {o : HO} (l : Le Hf H) (h : H a = some o) : Le (upd Hf a o) H := fun b u e => by
  by_cases hb : b = a
  · subst hb; rw [upd_same] at e; rw [← e]; exact h
  · rw [upd_ne hb] at e; exact l b u e
theorem le_upd2 {Hf H : Hp} {a : Addr} {o : HO} (l : Le Hf H) (h : Hf a = none) : Le Hf (upd H a o) := fun b u e => by
  rw [upd_ne (ne_of_none e h)]; exact l b u e
theorem SlOk.mono {i : Nat} {s : Sl} {x : Option (Option V)} (h : SlOk F Hf H i s x) (l : Le Hf Hf') (k : ∀ a vs ds, s = .ow ds ∨ s = .io ds → x = some (some (V.ref a)) → H a = some (.lst vs) → Hf a = none → H' a = some (.lst vs) ∧ Hf' a = none) : SlOk F Hf' H' i s x := by
  cases s with
  | no => trivial
  | v d => obtain ⟨w, e, r⟩ := h; exact ⟨w, e, Rep.le l r⟩
  | ow ds =>
    obtain ⟨a, vs, e, e1, e2, r, q⟩ := h
    obtain ⟨k1, k2⟩ := k a vs ds (.inl rfl) e e1 e2
    exact ⟨a, vs, e, k1, k2, Reps.le l r, q⟩
  | io ds =>
    obtain ⟨a, vs, e, e1, e2, r, q⟩ := h
    obtain ⟨k1, k2⟩ := k a vs ds (.inr rfl) e e1 e2
    exact ⟨a, vs, e, k1, k2, Reps.le l r, q⟩
theorem isOwn_of {s : Sl} {ds : List D} (h : s = .ow ds ∨ s = .io ds) : isOwn (some s) = true := by
  rcases h with rfl | rfl <;> rfl
/-- a new object is laid, and frozen -/
theorem Rel.laid {p : Addr} {o : HO} (q : Rel F Hf H σ ρ) (h : H p = none) : Rel F (upd Hf p o) (upd H p o) σ ρ := by
  have hf : Hf p = none := by
    cases e : Hf p with
    | none => rfl
    | some u => have := q.sub p u e; rw [h] at this; cases this
  have l1 := le_upd (o := o) hf
  refine ⟨q.len, fun b u e => ?_, q.base.trans l1, fun a u e1 e2 e3 => ?_, fun i a e => ?_, fun i s e => ?_, q.dist⟩
  · by_cases hb : b = p
    · subst hb; rw [upd_same] at e ⊢; exact e
    · rw [upd_ne hb] at e ⊢; exact q.sub b u e
  · obtain ⟨k1, k2⟩ := q.keep a u e1 e2 e3
    have ne : a ≠ p := ne_of_none k1 h
    rw [upd_ne ne, upd_ne ne]; exact ⟨k1, k2⟩
  · obtain ⟨k1, k2⟩ := q.iok i a e
    have ne : a ≠ p := by
      rintro rfl
      exact k2.1 h
    rw [upd_ne ne, upd_ne ne]; exact ⟨k1, k2⟩
  · refine (q.slot i s e).mono l1 fun a vs ds hs hx h1 h2 => ?_
    have ne : a ≠ p := ne_of_none h1 h
    rw [upd_ne ne, upd_ne ne]; exact ⟨h1, h2⟩
end
end RK
namespace RK
open PySem L2
/-! ## the small language -/
inductive BOp where | add | sub | mul | fdiv | mod | pow | fdn
  deriving DecidableEq
inductive COp where | eq | ne | lt | le | gt | ge | is_ | isnot | in_ | notin
  deriving DecidableEq
/-- built-in functions by their values -/
inductive Bi where | len | abs | int | str | tuple | list | sum | sorted | min | max | all | any | sortT
  deriving DecidableEq
/-- methods -/
inductive Me where | append | pop | popat | insert | index | count | reverse | sort | remove
  deriving DecidableEq
inductive Tg where | n (i : Nat) | t (l : List Nat)
inductive Lt where | non | bl (b : Bool) | int (i : Int) | str (x : Str)
def Lt.d : Lt → D
  | .non => .non | .bl b => .bl b | .int i => .int i | .str x => .str x
mutual
inductive Ex where
  | v (i : Nat) | c (d : Lt) | g (x : Str)
  | bin (op : BOp) (a b : Ex) | neg (a : Ex) | cmp (op : COp) (a b : Ex) | cmp2 (op op' : COp) (a b c : Ex)
  | and_ (a b : Ex) | or_ (a b : Ex) | not_ (a : Ex) | ite (c a b : Ex)
  | tup (es : List Ex) | lst (es : List Ex)
  | call (f : Nat) (es : List Ex) | bi (b : Bi) (es : List Ex) | isi (a : Ex) (t : String)
  | idx (a i : Ex) | slc (a : Ex) (lo hi : List Ex)
  | comp (elt : Ex) (tg : Tg) (it : It') (ifs : List Ex) (own : List (Str × Nat))
  | meth (m : Me) (o : Ex) (es : List Ex)
  | rev (a : Ex) | rgv (t : Bool) (es : List Ex)
inductive It' where
  | e (x : Ex) | rng (es : List Ex) | zip (a b : Ex) | enum (a : Ex)
end
inductive Sm where
  | asg (t : Tg) (x : Ex) | par (is : List Nat) (es : List Ex) | aug (i : Nat) (op : BOp) (x : Ex) | sti (o i x : Ex)
  | ex (x : Ex) | ifs (c : Ex) (a b : List Sm) | whil (c : Ex) (a : List Sm) | for_ (t : Tg) (it : It') (a : List Sm) | forO (t : Tg) (en : Bool) (i : Nat) (a : List Sm)
  | ret (x : Ex) | brk | cnt | pass | rai (k : Nat) (m : Str)
  | fg (pre post : List Bool) (s : Sm)
/-- a proposition; what a simplifier leaves alone stands in its type -/
@[reducible] def Pr {α : Sort u} (_ : α) : Type := Prop
/-! ## what it does -/
/-- an exception: its class in the table, what it tells -/
structure Xn where
  k : Nat
  arg : List D
/-- the defs by number, the module's constants -/
structure Ct where
  sp : Nat → List D → (D → List D → Prop) → (Xn → Prop) → Prop
  io : Nat → Option Nat
  fr : Nat → Bool
  gl : Str → Option D
def upS (ρ : En) (i : Nat) (s : Sl) : En := ρ.set i s
/-- a slot is forgotten (not the caller's list) -/
def fg1 : Sl → Sl
  | .io xs => .io xs
  | _ => .no
def fgE : List Bool → En → En
  | true :: m, s :: ρ => fg1 s :: fgE m ρ
  | false :: m, s :: ρ => s :: fgE m ρ
  | [], ρ => ρ
  | _, [] => []
/-- made constant -/
def keepR (ρ : En) (r : R) (Q : D → En → Prop) : Pr Q :=
  match r with
  | .v d => Q d ρ
  | .f ds => Q (.lst ds) ρ
  | .b i => match ρ[i]? with
    | some (.v d) => Q d ρ
    | some (.ow ds) => Q (.lst ds) (ρ.set i (.v (.lst ds)))
    | _ => False
def keepRs (ρ : En) (rs : List R) (Q : List D → En → Prop) : Prop :=
  match rs with
  | [] => Q [] ρ
  | r :: rs => keepR ρ r fun d ρ1 => keepRs ρ1 rs fun ds ρ2 => Q (d :: ds) ρ2
mutual
def D.dep : D → Nat
  | .tup ds => 1 + deps ds
  | .lst ds => 1 + deps ds
  | _ => 0
def deps : List D → Nat
  | [] => 0
  | d :: r => max d.dep (deps r)
end
/-- what == may be asked of -/
def EqOk (d : D) : Prop := d.pl = true ∧ d.dep ≤ 60
def eqD (x y : D) : Bool := PyData.eqv x.py y.py
def flatD : D → Bool
  | .non => true | .bl _ => true | .int _ => true | .str _ => true | _ => false
def truD : D → Option Bool
  | .non => some false
  | .bl b => some b
  | .int i => some (i != 0)
  | .tup ds => some (!ds.isEmpty)
  | .lst ds => some (!ds.isEmpty)
  | _ => none
/-- by a divisor of either sign -/
def CDivX (_ j : Int) : Prop := j ≠ 0 ∧ j.natAbs.log2 < 9000
def MulOk (i j : Int) : Prop := CMul i j ∨ CMulX i j
def binD (op : BOp) (x y : D) (Q : R → Prop) : Pr Q :=
  match op, x, y with
  | .add, .int i, .int j => Q (.v (.int (i + j)))
  | .add, .str i, .str j => i.length + j.length ≤ sizeLine ∧ Q (.v (.str (i ++ j)))
  | .add, .lst xs, .lst ys => xs.length + ys.length ≤ sizeLine ∧ Q (.f (xs ++ ys))
  | .add, .tup xs, .tup ys => xs.length + ys.length ≤ sizeLine ∧ Q (.v (.tup (xs ++ ys)))
  | .sub, .int i, .int j => Q (.v (.int (i - j)))
  | .mul, .int i, .int j => MulOk i j ∧ Q (.v (.int (i * j)))
  | .mul, .lst xs, .int k => (-(2 ^ 63) ≤ k ∧ k < 2 ^ 63 ∧ xs.length * k.toNat ≤ sizeLine) ∧ Q (.f (List.replicate k.toNat xs).flatten)
  | .mul, .tup xs, .int k => (-(2 ^ 63) ≤ k ∧ k < 2 ^ 63 ∧ xs.length * k.toNat ≤ 1000000) ∧ Q (.v (.tup (List.replicate k.toNat xs).flatten))
  | .fdiv, .int i, .int j => CDivW i j ∧ Q (.v (.int (i / j)))
  | .fdn, .int i, .int j => CDivX i j ∧ Q (.v (.int (i.fdiv j)))
  | .mod, .int i, .int j => 0 < j ∧ Q (.v (.int (i % j)))
  | .pow, .int i, .int j => CPow i j ∧ Q (.v (.int (i ^ j.toNat)))
  | _, _, _ => False
def cmpD (op : COp) (x y : D) (Q : Bool → Prop) : Pr Q :=
  match op, x, y with
  | .lt, .int i, .int j => Q (decide (i < j))
  | .le, .int i, .int j => Q (decide (i ≤ j))
  | .gt, .int i, .int j => Q (decide (j < i))
  | .ge, .int i, .int j => Q (decide (j ≤ i))
  | .eq, x, y => EqOk x ∧ EqOk y ∧ Q (eqD x y)
  | .ne, x, y => EqOk x ∧ EqOk y ∧ Q (!eqD x y)
  | .is_, .bl a, .bl b => Q (decide (a = b))
  | .is_, .non, .non => Q true
  | .is_, .bl _, .non => Q false
  | .is_, .int _, .non => Q false
  | .is_, .str _, .non => Q false
  | .is_, .tup _, .non => Q false
  | .is_, .lst _, .non => Q false
  | .isnot, .bl a, .bl b => Q (!decide (a = b))
  | .isnot, .non, .non => Q false
  | .isnot, .bl _, .non => Q true
  | .isnot, .int _, .non => Q true
  | .isnot, .str _, .non => Q true
  | .isnot, .tup _, .non => Q true
  | .isnot, .lst _, .non => Q true
  | .in_, x, .lst ys => EqOk x ∧ EqOk (.lst ys) ∧ Q (ys.any fun y => eqD y x)
  | .notin, x, .lst ys => EqOk x ∧ EqOk (.lst ys) ∧ Q (!ys.any fun y => eqD y x)
  | .in_, x, .tup ys => EqOk x ∧ EqOk (.tup ys) ∧ Q (ys.any fun y => eqD y x)
  | .notin, x, .tup ys => EqOk x ∧ EqOk (.tup ys) ∧ Q (!ys.any fun y => eqD y x)
  | _, _, _ => False
def tyD : D → Option String
  | .non => some "NoneType" | .bl _ => some "bool" | .int _ => some "int" | .str _ => some "str"
  | .tup _ => some "tuple" | .lst _ => some "list" | _ => none
def isiD (d : D) (t : String) : Option Bool :=
  match tyD d with
  | some u => if t == "int" || t == "bool" || t == "tuple" || t == "list" || t == "str" then some (u == t || (u == "bool" && t == "int")) else none
  | none => none
def intsD : List D → Option (List Int)
  | [] => some []
  | .int i :: r => (intsD r).map (i :: ·)
  | _ :: _ => none
def bolsD : List D → Option (List Bool)
  | [] => some []
  | .bl i :: r => (bolsD r).map (i :: ·)
  | _ :: _ => none
/-- tuples' order -/
def lexI : List Int → List Int → Bool
  | [], [] => false
  | [], _ :: _ => true
  | _ :: _, [] => false
  | a :: r, b :: t => decide (a < b) || (!decide (b < a) && lexI r t)
def tupI (ns : List Int) : D := .tup (ns.map D.int)
def leT (d e : D) : Prop := ∀ n m, d = tupI n → e = tupI m → lexI m n = false
/-- a sorted list: any that is a sorting -/
def biD (b : Bi) (ds : List D) (Q : R → Prop) : Pr Q :=
  match b, ds with
  | .len, [.lst xs] => Q (.v (.int xs.length))
  | .len, [.tup xs] => Q (.v (.int xs.length))
  | .len, [.str x] => x.length ≤ sizeLine ∧ Q (.v (.int x.length))
  | .abs, [.int i] => Q (.v (.int (if i < 0 then -i else i)))
  | .int, [.int i] => Q (.v (.int i))
  | .int, [.bl b] => Q (.v (.int (if b then 1 else 0)))
  | .str, [.int i] => i.natAbs.log2 < 1920 ∧ Q (.v (.str (toString i)))
  | .tuple, [.lst xs] => Q (.v (.tup xs))
  | .tuple, [.tup xs] => Q (.v (.tup xs))
  | .list, [.lst xs] => Q (.f xs)
  | .list, [.tup xs] => Q (.f xs)
  | .list, [.sc ns] => Q (.f (ns.map D.int))
  | .sum, [.lst xs] => ∃ ns, intsD xs = some ns ∧ Q (.v (.int ns.sum))
  | .sorted, [.lst xs] => ∃ ns, intsD xs = some ns ∧ ∀ ns' : List Int, ns'.Perm ns → ns'.Pairwise (· ≤ ·) → Q (.f (ns'.map D.int))
  | .sum, [.tup xs] => ∃ ns, intsD xs = some ns ∧ Q (.v (.int ns.sum))
  | .sorted, [.tup xs] => ∃ ns, intsD xs = some ns ∧ ∀ ns' : List Int, ns'.Perm ns → ns'.Pairwise (· ≤ ·) → Q (.f (ns'.map D.int))
  | .sortT, [.lst xs] => (∀ d ∈ xs, ∃ ns, ns ≠ [] ∧ d = tupI ns) ∧ ∀ ys : List D, ys.Perm xs → ys.Pairwise leT → Q (.f ys)
  | .min, [.int i, .int j] => Q (.v (.int (if j < i then j else i)))
  | .max, [.int i, .int j] => Q (.v (.int (if j > i then j else i)))
  | .min, [.lst xs] => ∃ ns, intsD xs = some ns ∧ 0 < ns.length ∧ ∀ m, m ∈ ns → (∀ y, y ∈ ns → m ≤ y) → Q (.v (.int m))
  | .max, [.lst xs] => ∃ ns, intsD xs = some ns ∧ 0 < ns.length ∧ ∀ m, m ∈ ns → (∀ y, y ∈ ns → y ≤ m) → Q (.v (.int m))
  | .all, [.lst xs] => ∃ bs, bolsD xs = some bs ∧ Q (.v (.bl (bs.all id)))
  | .any, [.lst xs] => ∃ bs, bolsD xs = some bs ∧ Q (.v (.bl (bs.any id)))
  | .str, [.str x] => Q (.v (.str x))
  | _, _ => False
def idxD (x i : D) (Q : D → Prop) : Pr Q :=
  match x, i with
  | .lst xs, .int k => ∃ d, atI xs k = some d ∧ Q d
  | .tup xs, .int k => ∃ d, atI xs k = some d ∧ Q d
  | _, _ => False
def rgvD (t : Bool) (ds : List D) (Q : R → Prop) : Pr Q :=
  match ds with
  | [.int j] => RgOk 0 j ∧ (if t = true then Q (.v (.tup ((List.range j.toNat).map fun (k : Nat) => D.int (k : Int)))) else Q (.f ((List.range j.toNat).map fun (k : Nat) => D.int (k : Int))))
  | [.int i, .int j] => RgOk i j ∧ (if t = true then Q (.v (.tup ((List.range (j - i).toNat).map fun (k : Nat) => D.int (i + (k : Int))))) else Q (.f ((List.range (j - i).toNat).map fun (k : Nat) => D.int (i + (k : Int)))))
  | _ => False
def revD (x : D) (Q : R → Prop) : Pr Q :=
  match x with
  | .lst xs => Q (.f xs.reverse)
  | _ => False
/-- a slice's written bounds -/
def optI : List D → Option (Option Int)
  | [] => some none
  | [.int i] => some (some i)
  | _ => none
def cutD (xs : List D) (lo hi : Option Int) : List D := (xs.drop (HT.sIx xs.length 0 lo)).take (HT.sIx xs.length xs.length hi - HT.sIx xs.length 0 lo)
def optK (o : Option (Option Int)) (Q : Option Int → Prop) : Pr Q :=
  match o with
  | some i => Q i
  | none => False
def slcD (x : D) (lo hi : Option Int) (Q : R → Prop) : Pr Q :=
  match x with
  | .lst xs => Q (.f (cutD xs lo hi))
  | .tup xs => Q (.v (.tup (cutD xs lo hi)))
  | _ => False
def zipD (x y : D) (Q : List D → Prop) : Pr Q :=
  match x, y with
  | .lst xs, .lst ys => Q (List.zipWith (fun a b => .tup [a, b]) xs ys)
  | .tup xs, .tup ys => Q (List.zipWith (fun a b => .tup [a, b]) xs ys)
  | _, _ => False
def enumL : Nat → List D → List D
  | _, [] => []
  | n, d :: r => .tup [.int n, d] :: enumL (n + 1) r
def enumD (x : D) (Q : List D → Prop) : Pr Q :=
  match x with
  | .lst xs => Q (enumL 0 xs)
  | .tup xs => Q (enumL 0 xs)
  | _ => False
def wipeE (ρ : En) : List Nat → En
  | [] => ρ
  | v :: vs => (wipeE ρ vs).set v .no
/-- the slots vs as they were in ρ -/
def backE (ρ ρ' : En) : List Nat → En
  | [] => ρ'
  | v :: vs => match ρ[v]? with
    | some s => (backE ρ ρ' vs).set v s
    | none => backE ρ ρ' vs
def notIo (ρ : En) (i : Nat) : Bool := match ρ[i]? with
  | some (.io _) => false
  | _ => true
def asgs (ρ : En) : List Nat → List D → (En → Prop) → Prop
  | [], [], Q => Q ρ
  | i :: is, d :: ds, Q => notIo ρ i = true ∧ asgs (ρ.set i (.v d)) is ds Q
  | _, _, _ => False
/-- what is lent is made constant; what is new stays so -/
def keepB (ρ : En) (r : R) (Q : R → En → Prop) : Prop :=
  match r with
  | .b i => keepR ρ (.b i) fun d ρ1 => Q (.v d) ρ1
  | r => Q r ρ
def keepBs (ρ : En) (rs : List R) (Q : List R → En → Prop) : Prop :=
  match rs with
  | [] => Q [] ρ
  | r :: rs => keepB ρ r fun r' ρ1 => keepBs ρ1 rs fun rs' ρ2 => Q (r' :: rs') ρ2
def slR : R → Sl
  | .v d => .v d
  | .f ds => .ow ds
  | .b _ => .no
def setRs (ρ : En) : List Nat → List R → (En → Prop) → Prop
  | [], [], Q => Q ρ
  | i :: is, r :: rs, Q => notIo ρ i = true ∧ setRs (ρ.set i (slR r)) is rs Q
  | _, _, _ => False
def asgT (t : Tg) (r : R) (ρ : En) (Q : En → Prop) : Pr Q :=
  match t with
  | .n i => notIo ρ i = true ∧ (match r with
    | .v d => Q (ρ.set i (.v d))
    | .f ds => Q (ρ.set i (.ow ds))
    | .b j => keepR ρ (.b j) fun d ρ1 => Q (ρ1.set i (.v d)))
  | .t l => keepR ρ r fun d ρ1 => match d with
    | .tup ds => ds.length = l.length ∧ asgs ρ1 l ds Q
    | .lst ds => ds.length = l.length ∧ asgs ρ1 l ds Q
    | _ => False
def rngD (ds : List D) (Q : List D → Prop) : Pr Q :=
  match ds with
  | [.int j] => (-(2 ^ 62) ≤ j ∧ j < 2 ^ 62) ∧ Q ((List.range j.toNat).map fun (k : Nat) => D.int (k : Int))
  | [.int i, .int j] => (-(2 ^ 62) ≤ i ∧ i < 2 ^ 62 ∧ -(2 ^ 62) ≤ j ∧ j < 2 ^ 62) ∧ Q ((List.range (j - i).toNat).map fun (k : Nat) => D.int (i + (k : Int)))
  | [.int i, .int j, .int c] => ∃ n, RgC i j c n ∧ Q ((List.range n).map fun (k : Nat) => D.int (i + (k : Nat) * c))
  | _ => False
def itemsD (d : D) (Q : List D → Prop) : Pr Q :=
  match d with
  | .lst xs => Q xs
  | .tup xs => Q xs
  | _ => False
/-- the call of the def f -/
def finD (C : Ct) (f : Nat) (E : Xn → En → Prop) (k : List D → En) (ρ' : En) (Q : R → En → Prop) (ds : List D) : Pr (E, k, Q) :=
  C.sp f ds (fun d o => match C.fr f, d with
    | true, .lst xs => Q (.f xs) (k o)
    | true, _ => False
    | false, d => Q (.v d) (k o)) (fun x => C.io f = none ∧ E x ρ')
def callD (C : Ct) (f : Nat) (rs : List R) (ρ : En) (Q : R → En → Prop) (E : Xn → En → Prop) : Prop :=
  match C.io f with
  | none => keepRs ρ rs fun ds ρ' => finD C f E (fun _ => ρ') ρ' Q ds
  | some _ => match rs with
    | .b i :: rest => keepRs ρ rest fun ds ρ' => (match ρ'[i]? with
      | some (.ow xs) => finD C f E (fun o => ρ'.set i (.ow o)) ρ' Q (.lst xs :: ds)
      | some (.io xs) => finD C f E (fun o => ρ'.set i (.io o)) ρ' Q (.lst xs :: ds)
      | _ => False)
    | _ => False
def isL : D → Bool
  | .lst _ => true
  | _ => false
def countD (x : D) (ds : List D) (ρ : En) (Q : R → En → Prop) : Pr Q :=
  match x, ds with
  | .lst xs, [.int k] => ∃ ns, intsD xs = some ns ∧ Q (.v (.int (ns.count k : Nat))) ρ
  | _, _ => False
def methD (m : Me) (r : R) (ds : List D) (ρ : En) (Q : R → En → Prop) : Pr Q :=
  if m = .count then countD (get ρ r) ds ρ Q else
  match r with
  | .b i => (match ρ[i]? with
    | some (.ow xs) => (match m, ds with
      | .append, [d] => xs.length < sizeLine ∧ Q (.v .non) (ρ.set i (.ow (xs ++ [d])))
      | .pop, [] => ∃ d, xs[xs.length - 1]? = some d ∧ Q (.v d) (ρ.set i (.ow xs.dropLast))
      | .remove, [.int k] => ∃ ns j, intsD xs = some ns ∧ ns[j]? = some k ∧ (∀ m : Nat, m < j → ns[m]? ≠ some k) ∧ Q (.v .non) (ρ.set i (.ow ((ns.eraseIdx j).map D.int)))
      | .popat, [.int k] => ∃ n d, (-(2 ^ 63) ≤ k ∧ k < 2 ^ 63 ∧ seqIndex? k xs.length = some n) ∧ xs[n]? = some d ∧ Q (.v d) (ρ.set i (.ow (xs.eraseIdx n)))
      | _, _ => False)
    | _ => False)
  | _ => False
def lcL (step : D → En → (Option D → En → Prop) → Prop) : List D → List D → En → (List D → En → Prop) → Prop
  | [], acc, ρ, Q => Q acc ρ
  | d :: r, acc, ρ, Q => step d ρ fun o ρ' => (match o with
    | some x => acc.length < sizeLine ∧ lcL step r (acc ++ [x]) ρ' Q
    | none => lcL step r acc ρ' Q)
section
variable (C : Ct)
mutual
def wE : Ex → (Xn → En → Prop) → En → (R → En → Prop) → Prop
  | .v i, E, ρ, Q => (match ρ[i]? with
    | some (.v d) => Q (.v d) ρ
    | some (.ow _) => Q (.b i) ρ
    | some (.io _) => Q (.b i) ρ
    | _ => False)
  | .c d, E, ρ, Q => Q (.v d.d) ρ
  | .g x, E, ρ, Q => (match C.gl x with
    | some d => Q (.v d) ρ
    | none => False)
  | .bin op a b, E, ρ, Q => wE a E ρ fun r1 ρ1 => wE b E ρ1 fun r2 ρ2 => binD op (get ρ2 r1) (get ρ2 r2) fun r => Q r ρ2
  | .neg a, E, ρ, Q => wE a E ρ fun r ρ1 => (match get ρ1 r with
    | .int i => Q (.v (.int (-i))) ρ1
    | _ => False)
  | .cmp op a b, E, ρ, Q => wE a E ρ fun r1 ρ1 => wE b E ρ1 fun r2 ρ2 => cmpD op (get ρ2 r1) (get ρ2 r2) fun c => Q (.v (.bl c)) ρ2
  | .cmp2 op op' a b c, E, ρ, Q => wE a E ρ fun r1 ρ1 => wE b E ρ1 fun r2 ρ2 => cmpD op (get ρ2 r1) (get ρ2 r2) fun k =>
      if k = true then wE c E ρ2 fun r3 ρ3 => cmpD op' (get ρ3 r2) (get ρ3 r3) fun k' => Q (.v (.bl k')) ρ3
      else Q (.v (.bl false)) ρ2
  | .and_ a b, E, ρ, Q => wE a E ρ fun r ρ1 => (match truD (get ρ1 r) with
    | some true => wE b E ρ1 Q
    | some false => Q r ρ1
    | none => False)
  | .or_ a b, E, ρ, Q => wE a E ρ fun r ρ1 => (match truD (get ρ1 r) with
    | some true => Q r ρ1
    | some false => wE b E ρ1 Q
    | none => False)
  | .not_ a, E, ρ, Q => wE a E ρ fun r ρ1 => (match truD (get ρ1 r) with
    | some k => Q (.v (.bl (!k))) ρ1
    | none => False)
  | .ite c a b, E, ρ, Q => wT c E ρ fun k ρ1 => if k = true then wE a E ρ1 Q else wE b E ρ1 Q
  | .tup es, E, ρ, Q => wRs es E ρ fun rs ρ1 => keepRs ρ1 rs fun ds ρ2 => ds.length ≤ sizeLine ∧ Q (.v (.tup ds)) ρ2
  | .lst es, E, ρ, Q => wRs es E ρ fun rs ρ1 => keepRs ρ1 rs fun ds ρ2 => ds.length ≤ sizeLine ∧ Q (.f ds) ρ2
  | .call f es, E, ρ, Q => wRs es E ρ fun rs ρ1 => callD C f rs ρ1 Q E
  | .bi b es, E, ρ, Q => wRs es E ρ fun rs ρ1 => biD b (rs.map (get ρ1)) fun r => Q r ρ1
  | .isi a t, E, ρ, Q => wE a E ρ fun r ρ1 => (match isiD (get ρ1 r) t with
    | some k => Q (.v (.bl k)) ρ1
    | none => False)
  | .idx a i, E, ρ, Q => wE a E ρ fun r1 ρ1 => wE i E ρ1 fun r2 ρ2 => idxD (get ρ2 r1) (get ρ2 r2) fun d => Q (.v d) ρ2
  | .slc a lo hi, E, ρ, Q => wE a E ρ fun r ρ1 => wRs lo E ρ1 fun l ρ2 => optK (optI (l.map (get ρ2))) fun lo' => wRs hi E ρ2 fun h ρ3 => optK (optI (h.map (get ρ3))) fun hi' => slcD (get ρ3 r) lo' hi' fun x => Q x ρ3
  | .comp elt tg it ifs own, E, ρ, Q => (∀ p ∈ own, isOwn ρ[p.2]? = false) ∧ wI it E ρ fun items ρ1 =>
      lcL (fun d ρ2 k => asgT tg (.v d) (wipeE ρ2 (own.map (·.2))) fun ρ3 => wTs ifs (fun _ _ => False) ρ3 fun c ρ4 =>
        if c = true then wE elt (fun _ _ => False) ρ4 fun r ρ5 => keepR ρ5 r fun x ρ6 => k (some x) (backE ρ1 ρ6 (own.map (·.2))) else k none (backE ρ1 ρ4 (own.map (·.2))))
        items [] ρ1 fun ds ρ7 => Q (.f ds) ρ7
  | .rev a, E, ρ, Q => wE a E ρ fun r ρ1 => revD (get ρ1 r) fun x => Q x ρ1
  | .rgv t es, E, ρ, Q => wRs es E ρ fun rs ρ1 => rgvD t (rs.map (get ρ1)) fun x => Q x ρ1
  | .meth m o es, E, ρ, Q => wE o E ρ fun r ρ1 => isL (get ρ1 r) = true ∧ wRs es E ρ1 fun rs ρ2 => keepRs ρ2 rs fun ds ρ3 => methD m r ds ρ3 Q
def wRs : List Ex → (Xn → En → Prop) → En → (List R → En → Prop) → Prop
  | [], E, ρ, Q => Q [] ρ
  | e :: es, E, ρ, Q => wE e E ρ fun r ρ1 => wRs es E ρ1 fun rs ρ2 => Q (r :: rs) ρ2
/-- as a test -/
def wT : Ex → (Xn → En → Prop) → En → (Bool → En → Prop) → Prop
  | .and_ a b, E, ρ, Q => wT a E ρ fun c ρ1 => if c = true then wT b E ρ1 Q else Q false ρ1
  | .or_ a b, E, ρ, Q => wT a E ρ fun c ρ1 => if c = true then Q true ρ1 else wT b E ρ1 Q
  | .not_ a, E, ρ, Q => wT a E ρ fun c ρ1 => Q (!c) ρ1
  | .ite _ _ _, _, _, _ => False
  | e, E, ρ, Q => wE e E ρ fun r ρ1 => (match truD (get ρ1 r) with
    | some k => Q k ρ1
    | none => False)
def wTs : List Ex → (Xn → En → Prop) → En → (Bool → En → Prop) → Prop
  | [], E, ρ, Q => Q true ρ
  | c :: cs, E, ρ, Q => wT c E ρ fun k ρ1 => if k = true then wTs cs E ρ1 Q else Q false ρ1
def wI : It' → (Xn → En → Prop) → En → (List D → En → Prop) → Prop
  | .e x, E, ρ, Q => wE x E ρ fun r ρ1 => keepR ρ1 r fun d ρ2 => itemsD d fun xs => Q xs ρ2
  | .rng es, E, ρ, Q => wRs es E ρ fun rs ρ1 => rngD (rs.map (get ρ1)) fun xs => Q xs ρ1
  | .zip a b, E, ρ, Q => wE a E ρ fun r1 ρ1 => wE b E ρ1 fun r2 ρ2 => keepR ρ2 r1 fun d1 ρ3 => keepR ρ3 r2 fun d2 ρ4 => zipD d1 d2 fun xs => Q xs ρ4
  | .enum a, E, ρ, Q => wE a E ρ fun r ρ1 => keepR ρ1 r fun d ρ2 => enumD d fun xs => Q xs ρ2
end
end
structure DE where
  nx : En → Prop
  rt : R → En → Prop
  bk : En → Prop
  ct : En → Prop
def forL (step : D → En → (En → Prop) → Prop) : List D → En → (En → Prop) → Prop
  | [], ρ, nx => nx ρ
  | d :: r, ρ, nx => step d ρ fun ρ' => forL step r ρ' nx
def itemsO (en : Bool) (ds : List D) : List D := if en = true then enumL 0 ds else ds
section
variable (C : Ct)
mutual
def wS : (Xn → En → Prop) → Sm → DE → En → Prop
  | E, .asg t x, D, ρ => wE C x E ρ fun r ρ1 => asgT t r ρ1 D.nx
  | E, .par is es, D, ρ => wRs C es E ρ fun rs ρ1 => keepBs ρ1 rs fun rs' ρ2 => setRs ρ2 is rs' D.nx
  | E, .aug i op x, D, ρ => (match ρ[i]? with
    | some (.v (.int a)) => wE C x E ρ fun r ρ1 => (match op, get ρ1 r with
      | .add, .int b => D.nx (ρ1.set i (.v (.int (a + b))))
      | .sub, .int b => D.nx (ρ1.set i (.v (.int (a - b))))
      | _, _ => False)
    | some (.ow xs) => wE C x E ρ fun r ρ1 => (match op, get ρ1 r, ρ1[i]? with
      | .add, .lst ys, some (.ow xs) => xs.length + ys.length ≤ sizeLine ∧ D.nx (ρ1.set i (.ow (xs ++ ys)))
      | _, _, _ => False)
    | _ => False)
  | E, .sti o i x, D, ρ => wE C x E ρ fun r ρ1 => keepR ρ1 r fun d ρ2 => wE C o E ρ2 fun ro ρ3 => wE C i E ρ3 fun ri ρ4 =>
      (match ro, get ρ4 ri with
      | .b j, .int k => (match ρ4[j]? with
        | some (.ow xs) => ∃ m, ixN xs.length k = some m ∧ D.nx (ρ4.set j (.ow (xs.set m d)))
        | some (.io xs) => ∃ m, ixN xs.length k = some m ∧ D.nx (ρ4.set j (.io (xs.set m d)))
        | _ => False)
      | _, _ => False)
  | E, .ex x, D, ρ => wE C x E ρ fun _ ρ1 => D.nx ρ1
  | E, .ifs c a b, D, ρ => wT C c E ρ fun k ρ1 => if k = true then wSs E a D ρ1 else wSs E b D ρ1
  | E, .whil c a, D, ρ => ∃ I : Nat → En → Prop, (∃ m, I m ρ) ∧ ∀ m ρ, I m ρ → wT C c E ρ fun k ρ1 =>
      if k = true then wSs E a ⟨fun ρ' => ∃ m', m' < m ∧ I m' ρ', D.rt, D.nx, fun ρ' => ∃ m', m' < m ∧ I m' ρ'⟩ ρ1 else D.nx ρ1
  | E, .for_ t it a, D, ρ => wI C it E ρ fun items ρ1 => forL (fun d ρ2 k => asgT t (.v d) ρ2 fun ρ3 => wSs E a ⟨k, D.rt, D.nx, k⟩ ρ3) items ρ1 D.nx
  | E, .ret x, D, ρ => wE C x E ρ D.rt
  | E, .brk, D, ρ => D.bk ρ
  | E, .cnt, D, ρ => D.ct ρ
  | E, .pass, D, ρ => D.nx ρ
  | E, .rai k _, _, ρ => E ⟨k, []⟩ ρ
  | E, .fg pre post s, D, ρ => wS E s ⟨fun ρ' => D.nx (fgE post ρ'), D.rt, D.bk, fun ρ' => D.ct (fgE post ρ')⟩ (fgE pre ρ)
  | E, .forO t en i a, D, ρ => (match ρ[i]? with
    | some (.ow ds) => forL (fun d ρ2 k => ρ2[i]? = some (.io ds) ∧ asgT t (.v d) ρ2 fun ρ3 => wSs (fun x ρ' => E x (ρ'.set i .no)) a ⟨k, fun r ρ' => (match r with
        | .v d => D.rt (.v d) (ρ'.set i .no)
        | _ => False), fun ρ' => ρ'[i]? = some (.io ds) ∧ D.nx (ρ'.set i (.ow ds)), k⟩ ρ3) (itemsO en ds) (ρ.set i (.io ds)) fun ρ' => ρ'[i]? = some (.io ds) ∧ D.nx (ρ'.set i (.ow ds))
    | _ => False)
def wSs : (Xn → En → Prop) → List Sm → DE → En → Prop
  | _, [], D, ρ => D.nx ρ
  | E, s :: r, D, ρ => wS E s { D with nx := wSs E r D } ρ
end
end
end RK
namespace RK
open PySem L2
/-- the top of it as the heap stands (it may be a list of a slot's own), what is within constant -/
def RepT (F : Fc) (Hf H : Hp) (v : V) : D → Prop
  | .lst ds => ∃ a vs, v = .ref a ∧ H a = some (.lst vs) ∧ Reps F.K F.fa Hf vs ds
  | d => Rep F.K F.fa Hf v d
theorem RepT.of {F : Fc} {Hf H : Hp} {v : V} {d : D} (l : Le Hf H) (h : Rep F.K F.fa Hf v d) : RepT F Hf H v d := by
  cases h with
  | lst e r => exact ⟨_, _, rfl, l _ _ e, r⟩
  | non => exact .non
  | bl b => exact .bl b
  | int b => exact .int b
  | str b => exact .str b
  | ty b => exact .ty b
  | fn b => exact .fn b
  | sc b => exact .sc b
  | tup a b => exact .tup a b
theorem RepT.rep {F : Fc} {Hf H : Hp} {v : V} : ∀ {d : D}, Le Hf H → RepT F Hf H v d → Rep F.K F.fa H v d
  | .lst ds, l, h => by
    obtain ⟨a, vs, rfl, e, r⟩ := h
    exact .lst e (Reps.le l r)
  | .non, l, h => Rep.le l h
  | .bl _, l, h => Rep.le l h
  | .int _, l, h => Rep.le l h
  | .str _, l, h => Rep.le l h
  | .ty _, l, h => Rep.le l h
  | .fn _, l, h => Rep.le l h
  | .sc _, l, h => Rep.le l h
  | .tup _, l, h => Rep.le l h
section
variable {F : Fc} {Hs Hf H Hf' H' Hf0 : Hp} {σ : St} {ρ ρ' ρ0 : En} {v : V}
theorem RepR.top {r : R} (q : Rel F Hf H σ ρ) (h : RepR F Hs Hf H σ ρ v r) : RepT F Hf H v (get ρ r) := by
  cases r with
  | v d => exact .of q.sub h
  | b i =>
    obtain ⟨h1, s, hs, ne⟩ := h
    have := q.slot i s hs
    show RepT _ _ _ _ (gSl ρ[i]?)
    rw [hs]
    cases s with
    | no => exact absurd rfl ne
    | v d =>
      obtain ⟨w, e, r⟩ := this
      rw [h1] at e; cases e
      exact .of q.sub r
    | ow ds =>
      obtain ⟨a, vs, e, e1, e2, r, _⟩ := this
      rw [h1] at e; cases e
      exact ⟨_, _, rfl, e1, r⟩
    | io ds =>
      obtain ⟨a, vs, e, e1, e2, r, _⟩ := this
      rw [h1] at e; cases e
      exact ⟨_, _, rfl, e1, r⟩
  | f ds =>
    obtain ⟨a, vs, e, e1, e2, r, _⟩ := h
    subst e
    exact ⟨_, _, rfl, e1, r⟩
/-- a new object, not constant -/
theorem Rel.newO {p : Addr} {o : HO} (q : Rel F Hf H σ ρ) (h : H p = none) : Rel F Hf (upd H p o) σ ρ := by
  have hf : Hf p = none := by
    cases e : Hf p with
    | none => rfl
    | some u => have := q.sub p u e; rw [h] at this; cases this
  refine ⟨q.len, le_upd2 q.sub hf, q.base, fun a u e1 e2 e3 => ?_, fun i a e => ?_, fun i s e => ?_, q.dist⟩
  · obtain ⟨k1, k2⟩ := q.keep a u e1 e2 e3
    rw [upd_ne (ne_of_none k1 h)]; exact ⟨k1, k2⟩
  · obtain ⟨k1, k2⟩ := q.iok i a e
    have ne : a ≠ p := by rintro rfl; exact k2.1 h
    rw [upd_ne ne]; exact ⟨k1, k2⟩
  · refine (q.slot i s e).mono (Le.refl _) fun a vs ds hs hx h1 h2 => ?_
    rw [upd_ne (ne_of_none h1 h)]; exact ⟨h1, h2⟩
theorem Rel.none_f (q : Rel F Hf H σ ρ) {p : Addr} (h : H p = none) : Hf p = none := by
  cases e : Hf p with
  | none => rfl
  | some u => have := q.sub p u e; rw [h] at this; cases this
/-- a new list is made constant -/
theorem Rel.frzNew {a : Addr} {vs : List V} (q : Rel F Hf H σ ρ) (e1 : H a = some (.lst vs)) (e2 : Hf a = none) (e3 : F.H0 a = none) (no : ∀ i : Nat, isOwn ρ[i]? = true → σ[i]? ≠ some (some (V.ref a))) : Rel F (upd Hf a (.lst vs)) H σ ρ := by
  refine ⟨q.len, upd_le q.sub e1, q.base.trans (le_upd e2), fun b u k1 k2 k3 => ?_, fun i b e => ?_, fun i s e => ?_, q.dist⟩
  · obtain ⟨m1, m2⟩ := q.keep b u k1 k2 k3
    have ne : b ≠ a := by rintro rfl; rw [e3] at k1; cases k1
    rw [upd_ne ne]; exact ⟨m1, m2⟩
  · obtain ⟨k1, k2⟩ := q.iok i b e
    have ne : b ≠ a := by rintro rfl; exact k2.2 e3
    rw [upd_ne ne]; exact ⟨k1, k2⟩
  · refine (q.slot i s e).mono (le_upd e2) fun b vs ds hs hx h1 h2 => ?_
    have ne : b ≠ a := by
      rintro rfl
      exact no i (by rw [e]; exact isOwn_of hs) hx
    rw [upd_ne ne]; exact ⟨h1, h2⟩
theorem set_ne {ρ : En} {i j : Nat} {s : Sl} (h : j ≠ i) : (ρ.set i s)[j]? = ρ[j]? := List.getElem?_set_ne (Ne.symm h)
theorem set_eq {ρ : En} {i : Nat} {s t : Sl} (h : ρ[i]? = some t) : (ρ.set i s)[i]? = some s := by
  have := (List.getElem?_eq_some_iff.mp h).1
  exact List.getElem?_set_self this
theorem own_set {ρ : En} {i j : Nat} {s : Sl} (h : isOwn (ρ.set i s)[j]? = true) (hs : isOwn (some s) = false) : j ≠ i ∧ isOwn ρ[j]? = true := by
  by_cases hj : j = i
  · subst hj
    by_cases hl : j < ρ.length
    · rw [List.getElem?_set_self hl] at h; rw [hs] at h; cases h
    · rw [List.getElem?_eq_none (by simpa using hl)] at h; cases h
  · rw [set_ne hj] at h
    exact ⟨hj, h⟩
/-- what slot i owns is made constant -/
theorem Rel.frzSlot {i : Nat} {ds : List D} (q : Rel F Hf H σ ρ) (hi : ρ[i]? = some (.ow ds)) : ∃ a vs, σ[i]? = some (some (V.ref a)) ∧ H a = some (.lst vs) ∧ Hf a = none ∧ F.H0 a = none ∧ Reps F.K F.fa Hf vs ds ∧ Rel F (upd Hf a (.lst vs)) H σ (ρ.set i (.v (.lst ds))) := by
  obtain ⟨a, vs, e, e1, e2, r, e3⟩ := q.slot i _ hi
  refine ⟨a, vs, e, e1, e2, e3, r, by rw [List.length_set]; exact q.len, upd_le q.sub e1, q.base.trans (le_upd e2), fun b u k1 k2 k3 => ?_, fun j b ej => ?_, fun j s ej => ?_, fun j k b hjk hj hk ej ek => ?_⟩
  · obtain ⟨m1, m2⟩ := q.keep b u k1 k2 k3
    have ne : b ≠ a := by rintro rfl; rw [e3] at k1; cases k1
    rw [upd_ne ne]; exact ⟨m1, m2⟩
  · obtain ⟨k1, k2⟩ := q.iok j b ej
    by_cases ne : b = a
    · subst ne
      exact absurd e3 k2.2
    · rw [upd_ne ne]; exact ⟨k1, k2⟩
  · by_cases hj : j = i
    · subst hj
      rw [set_eq hi] at ej
      cases ej
      exact ⟨_, e, .lst upd_same (Reps.le (le_upd e2) r)⟩
    · rw [set_ne hj] at ej
      refine (q.slot j s ej).mono (le_upd e2) fun b vs ds hs hx h1 h2 => ?_
      have ne : b ≠ a := by
        rintro rfl
        exact q.dist j i b hj (by rw [ej]; exact isOwn_of hs) (by rw [hi]; rfl) hx e
      rw [upd_ne ne]; exact ⟨h1, h2⟩
  · exact q.dist j k b hjk (own_set hj rfl).2 (own_set hk rfl).2 ej ek
end
end RK
namespace RK
open PySem L2
def isF : R → Bool
  | .f _ => true
  | _ => false
section
variable {F : Fc} {Hs Hf H Hf' H' Hf0 : Hp} {σ : St} {ρ ρ' ρ0 : En} {v : V}
theorem live_set {ρ : En} {i : Nat} {s t : Sl} (hi : ρ[i]? = some t) (hs : s ≠ .no) (j : Nat) (u : Sl) (h : ρ[j]? = some u) (n : u ≠ .no) : ∃ s', (ρ.set i s)[j]? = some s' ∧ s' ≠ .no := by
  by_cases hj : j = i
  · subst hj; exact ⟨s, set_eq hi, hs⟩
  · exact ⟨u, by rw [set_ne hj]; exact h, n⟩
theorem keepR_ok (q0 : Rel F Hf0 Hs σ ρ0) (S0 : Step σ ρ0 ρ Hf0 Hs Hf H) (q : Rel F Hf H σ ρ) {r : R} (h : RepR F Hs Hf H σ ρ v r) {K : D → En → Prop} (k : keepR ρ r K) :
    ∃ d ρ' Hf', K d ρ' ∧ Rel F Hf' H σ ρ' ∧ Rep F.K F.fa Hf' v d ∧ Step σ ρ0 ρ' Hf0 Hs Hf' H ∧ Le Hf Hf' ∧ ∀ w r', RepR F Hs Hf H σ ρ w r' → (isF r = true → isF r' = true → v ≠ w) → RepR F Hs Hf' H σ ρ' w r' := by
  cases r with
  | v d => exact ⟨d, ρ, Hf, k, q, h, S0, Le.refl _, fun _ _ x _ => x⟩
  | f ds =>
    obtain ⟨a, vs, rfl, e1, e2, r, e3⟩ := h
    have no := fun i hi => RepR.notOwn (ds := ds) q0 S0 e3 i hi
    refine ⟨.lst ds, ρ, _, k, q.frzNew e1 e2 (q0.dom0 e3) no, .lst upd_same (Reps.le (le_upd e2) r), ⟨S0.le.trans (le_upd e2), fun b o h1 h2 h3 => ?_, S0.own, S0.live, S0.dom⟩, le_upd e2, fun w r' x nw => ?_⟩
    · obtain ⟨k1, k2⟩ := S0.out b o h1 h2 h3
      have ne : b ≠ a := by rintro rfl; rw [e3] at h1; cases h1
      exact ⟨k1, by rw [upd_ne ne]; exact k2⟩
    · cases r' with
      | v d => exact Rep.le (le_upd e2) x
      | b i => exact x
      | f es =>
        obtain ⟨b, ws, rfl, m1, m2, m3, m4⟩ := x
        have ne : b ≠ a := fun z => nw rfl rfl (by rw [z])
        exact ⟨b, ws, rfl, m1, by rw [upd_ne ne]; exact m2, Reps.le (le_upd e2) m3, m4⟩
  | b i =>
    obtain ⟨h1, s, hs, ne⟩ := h
    unfold keepR at k
    simp only [hs] at k
    cases s with
    | no => exact absurd rfl ne
    | io ds => exact False.elim k
    | v d =>
      obtain ⟨w, e, rr⟩ := q.slot i _ hs
      rw [h1] at e; cases e
      exact ⟨d, ρ, Hf, k, q, rr, S0, Le.refl _, fun _ _ x _ => x⟩
    | ow ds =>
      obtain ⟨a, vs, e, e1, e2, e3, rr, q'⟩ := q.frzSlot hs
      rw [h1] at e; cases e
      have oi : isOwn ρ[i]? = true := by rw [hs]; rfl
      refine ⟨.lst ds, ρ.set i (.v (.lst ds)), _, k, q', .lst upd_same (Reps.le (le_upd e2) rr), ⟨S0.le.trans (le_upd e2), fun b o g1 g2 g3 => ?_, fun j hj => S0.own j (own_set hj rfl).2, fun j u hj n => ?_, S0.dom⟩, le_upd e2, fun w r' x nw => ?_⟩
      · obtain ⟨k1, k2⟩ := S0.out b o g1 g2 g3
        have ne : b ≠ a := by rintro rfl; exact g3 i (S0.own i oi) h1
        exact ⟨k1, by rw [upd_ne ne]; exact k2⟩
      · obtain ⟨u', hu, n'⟩ := S0.live j u hj n
        exact live_set hs (by intro z; cases z) j u' hu n'
      · cases r' with
        | v d => exact Rep.le (le_upd e2) x
        | b j =>
          obtain ⟨x1, u, hu, n⟩ := x
          exact ⟨x1, live_set hs (by intro z; cases z) j u hu n⟩
        | f es =>
          obtain ⟨b, ws, rfl, m1, m2, m3, m4⟩ := x
          have ne : b ≠ a := by
            rintro rfl
            exact RepR.notOwn (ds := es) q0 S0 m4 i oi h1
          exact ⟨b, ws, rfl, m1, by rw [upd_ne ne]; exact m2, Reps.le (le_upd e2) m3, m4⟩
/-- several results, the new ones apart -/
inductive RepRs (F : Fc) (Hs Hf H : Hp) (σ : St) (ρ : En) : List V → List R → Prop
  | nil : RepRs F Hs Hf H σ ρ [] []
  | cons {v : V} {vs : List V} {r : R} {rs : List R} : RepR F Hs Hf H σ ρ v r → RepRs F Hs Hf H σ ρ vs rs → (∀ (j : Nat) (w : V) (r' : R), isF r = true → vs[j]? = some w → rs[j]? = some r' → isF r' = true → v ≠ w) → RepRs F Hs Hf H σ ρ (v :: vs) (r :: rs)
theorem RepRs.length : ∀ {vs : List V} {rs : List R}, RepRs F Hs Hf H σ ρ vs rs → vs.length = rs.length
  | _, _, .nil => rfl
  | _, _, .cons _ t _ => by simp only [List.length_cons, RepRs.length t]
theorem RepRs.map {Hs2 Hf2 H2 : Hp} {ρ2 : En} : ∀ {vs : List V} {rs : List R}, RepRs F Hs Hf H σ ρ vs rs → (∀ (j : Nat) (w : V) (r : R), vs[j]? = some w → rs[j]? = some r → RepR F Hs Hf H σ ρ w r → RepR F Hs2 Hf2 H2 σ ρ2 w r) → RepRs F Hs2 Hf2 H2 σ ρ2 vs rs
  | _, _, .nil, _ => .nil
  | _, _, .cons h t d, f => .cons (f 0 _ _ rfl rfl h) (RepRs.map t fun j w r e1 e2 x => f (j + 1) w r (by simpa using e1) (by simpa using e2) x) d
theorem RepRs.step {ρ1 ρ2 : En} {Hf1 H1 Hf2 H2 : Hp} {vs : List V} {rs : List R} (q0 : Rel F Hf0 Hs σ ρ0) (S0 : Step σ ρ0 ρ1 Hf0 Hs Hf1 H1) (h : RepRs F Hs Hf1 H1 σ ρ1 vs rs) (S : Step σ ρ1 ρ2 Hf1 H1 Hf2 H2) : RepRs F Hs Hf2 H2 σ ρ2 vs rs :=
  h.map fun _ _ _ _ _ x => x.step q0 S0 S
def RepTs (F : Fc) (Hf H : Hp) : List V → List D → Prop
  | [], [] => True
  | v :: vs, d :: ds => RepT F Hf H v d ∧ RepTs F Hf H vs ds
  | _, _ => False
theorem RepRs.tops (q : Rel F Hf H σ ρ) : ∀ {vs : List V} {rs : List R}, RepRs F Hs Hf H σ ρ vs rs → RepTs F Hf H vs (rs.map (get ρ))
  | _, _, .nil => trivial
  | _, _, .cons h t _ => ⟨h.top q, RepRs.tops q t⟩
/-- .. made constant -/
theorem keepRs_ok (q0 : Rel F Hf0 Hs σ ρ0) : ∀ {rs : List R} {vs : List V} {ρ : En} {Hf : Hp} {K : List D → En → Prop}, Step σ ρ0 ρ Hf0 Hs Hf H → Rel F Hf H σ ρ → RepRs F Hs Hf H σ ρ vs rs → keepRs ρ rs K →
    ∃ ds ρ' Hf', K ds ρ' ∧ Rel F Hf' H σ ρ' ∧ Reps F.K F.fa Hf' vs ds ∧ Step σ ρ0 ρ' Hf0 Hs Hf' H ∧ Le Hf Hf' ∧ ∀ w r', RepR F Hs Hf H σ ρ w r' → (∀ (j : Nat) (u : V) (r : R), vs[j]? = some u → rs[j]? = some r → isF r = true → isF r' = true → u ≠ w) → RepR F Hs Hf' H σ ρ' w r'
  | [], _, ρ, Hf, K, S0, q, .nil, k => ⟨[], ρ, Hf, k, q, .nil, S0, Le.refl _, fun _ _ x _ => x⟩
  | r :: rs, v :: vs, ρ, Hf, K, S0, q, .cons h t dj, k => by
    obtain ⟨d, ρ1, Hf1, k1, q1, r1, S1, l1, P1⟩ := keepR_ok q0 S0 q h k
    have t1 : RepRs F Hs Hf1 H σ ρ1 vs rs := t.map fun j w r' e1 e2 x => P1 w r' x fun f1 f2 => dj j w r' f1 e1 e2 f2
    obtain ⟨ds, ρ2, Hf2, k2, q2, r2, S2, l2, P2⟩ := keepRs_ok q0 S1 q1 t1 k1
    refine ⟨d :: ds, ρ2, Hf2, k2, q2, .cons (Rep.le l2 r1) r2, S2, l1.trans l2, fun w r' x nw => P2 w r' (P1 w r' x fun f1 f2 => nw 0 _ _ rfl rfl f1 f2) fun j u r3 e1 e2 => nw (j + 1) u r3 (by simpa using e1) (by simpa using e2)⟩
end
end RK
namespace RK
open PySem L2
open PySem.Spec PyProof.Rows in
/-- t * 1, and of the empty one: itself -/
theorem rk_mul_same (l : Addr) (items : Array Value) (n : Nat) (dd : Option Addr) (sl : Array (Option Value)) (x : Int) (u : Tok) (b0 : (decide (x < -(2 ^ 63)) || decide (x ≥ 2 ^ 63)) = false) (b1 : (items.isEmpty || x == 1) = true) :
    Meets (Builtin.«tuple.__mul__» ⟨[.ref l, .int x u], []⟩) (fun _ R s => s.heap.get? l = some ⟨.type "tuple", dd, .seq items n, sl⟩ ∧ R (.ok (.ret (Value.ref l))) s) :=
  .of_wp fun prog w A R s h => by
    obtain ⟨hp, g, d, tk, os⟩ := s
    obtain ⟨hl, h⟩ := h
    have f1 := AutoSeq1.idx_int
    wp_walk using wpAny_loadPart' hl
    repeat (first
      | (refine wpAny_ite_false (decide_eq_false (by rw [b0]; exact Bool.false_ne_true)) ?_; wp_walk using wpAny_loadPart' hl)
      | (refine wpAny_ite_true (decide_eq_true (by rw [b1])) ?_; wp_walk using wpAny_loadPart' hl))
    exact ⟨_, rfl, h⟩
open PySem.Spec PyProof.Rows in
/-- t * k, k not above 0: a new empty one -/
theorem rk_mul_none (l : Addr) (items : Array Value) (n : Nat) (dd : Option Addr) (sl : Array (Option Value)) (x : Int) (u : Tok) (b0 : (decide (x < -(2 ^ 63)) || decide (x ≥ 2 ^ 63)) = false) (b1 : (items.isEmpty || x == 1) = false) (b2 : (decide (x ≤ 0) || items.isEmpty) = true) :
    Meets (Builtin.«tuple.__mul__» ⟨[.ref l, .int x u], []⟩) (fun _ R s => s.heap.get? l = some ⟨.type "tuple", dd, .seq items n, sl⟩ ∧ R (.ok (.ret (Value.ref s.heap.objs.size))) { s with heap := s.heap.push ⟨.type "tuple", none, .seq #[] 0, #[]⟩, toks := s.toks }) :=
  .of_wp fun prog w A R s h => by
    obtain ⟨hp, g, d, tk, os⟩ := s
    obtain ⟨hl, h⟩ := h
    have f1 := AutoSeq1.idx_int
    wp_walk using wpAny_loadPart' hl
    repeat (first
      | (refine wpAny_ite_false (decide_eq_false (by rw [b0]; exact Bool.false_ne_true)) ?_; wp_walk using wpAny_loadPart' hl)
      | (refine wpAny_ite_false (decide_eq_false (by rw [b1]; exact Bool.false_ne_true)) ?_; wp_walk using wpAny_loadPart' hl)
      | (refine wpAny_ite_true (decide_eq_true (by rw [b2])) ?_; wp_walk using wpAny_loadPart' hl))
    exact ⟨_, rfl, h⟩
def rRepA (K : PySem.W.Frag) : R2 := fun x y H Q => ∃ l k xs, x = .ref l ∧ y = .int k ∧ SqT K H l xs ∧ -(2 ^ 63) ≤ k ∧ k < 2 ^ 63 ∧ ((xs = [] ∨ k = 1) → Q (.ref l) H) ∧ (xs ≠ [] → k ≤ 0 → ∀ p, H p = none → Q (.ref p) (upd H p (.tup []))) ∧
  (xs ≠ [] → 2 ≤ k → xs.length * k.toNat ≤ 1000000 ∧ ∀ p, H p = none → Q (.ref p) (upd H p (.tup (List.replicate k.toNat xs).flatten)))
section
variable {X : Cx}
open PySem.Spec PyProof.Rows in
theorem op_repA : OpR X (binaryOp .Mult) (rRepA X.K) := by
  intro pins s σ H x y v u Q I rx ry h
  obtain ⟨l, k, xs, rfl, rfl, hT, lo, hi, q1, q0, q2⟩ := h
  cases rx
  obtain ⟨t, rfl⟩ := ry
  obtain ⟨its, r, ⟨⟨cls, dd, data, sl⟩, ho, hc, n, hd⟩, hs⟩ := I.tuple hT
  simp only at hc hd
  subst hc hd
  have len : its.length = xs.length := r.length.symm
  have empty_iff : its.toArray.isEmpty = xs.isEmpty := by
    cases its <;> cases xs <;> simp_all
  have b0 : (decide (k < -(2 ^ 63)) || decide (k ≥ 2 ^ 63)) = false := by
    rw [decide_eq_false (by omega), decide_eq_false (by omega)] <;> rfl
  refine wpAny_binaryOp_repeat_ref (T := "tuple") (U := "int") (by decide) ⟨_, ho, rfl⟩ (fun s' => typeIs_int s' k t) noFill_tuple_mul F.fills_int_mul F.slot_int_rmul repeat_tuple F.slot_int_index.lookup
    (call_meets F.slot_int_rmul (typeIs_int s k t) F.entry_int_rmul (F.args_int_rmul_2 _ _) (int_rmul_tuple k t l its.toArray n dd sl) ⟨ho, rfl, ⟨_, ho, rfl⟩, ?_⟩)
  by_cases same : xs = [] ∨ k = 1
  · have b1 : (its.toArray.isEmpty || k == 1) = true := by
      rw [empty_iff]
      rcases same with e | e <;> subst e <;> simp
    exact call_meets F.slot_tuple_mul ⟨_, ho, rfl⟩ F.entry_tuple_mul (F.args_tuple_mul_2 _ _) (rk_mul_same l its.toArray n dd sl k t b0 b1) ⟨ho, .ref l, H, I, rfl, q1 same⟩
  · have ne : xs ≠ [] := fun e => same (.inl e)
    have n1 : k ≠ 1 := fun e => same (.inr e)
    have ie : its.toArray.isEmpty = false := by
      rw [empty_iff]
      cases xs with
      | nil => exact absurd rfl ne
      | cons _ _ => rfl
    have b1 : (its.toArray.isEmpty || k == 1) = false := by
      rw [ie, Bool.false_or]
      exact beq_eq_false_iff_ne.mpr n1
    by_cases k0 : k ≤ 0
    · have b2 : (decide (k ≤ 0) || its.toArray.isEmpty) = true := by rw [decide_eq_true k0]; rfl
      refine call_meets F.slot_tuple_mul ⟨_, ho, rfl⟩ F.entry_tuple_mul (F.args_tuple_mul_2 _ _) (rk_mul_none l its.toArray n dd sl k t b0 b1 b2) ⟨ho, ?_⟩
      refine ⟨.ref s.heap.objs.size, _, I.laid (t' := s.toks) (o := .tup []) (fun b ob q => Heap.get?_push_of_some _ q) (Nat.le_refl _) ?_, rfl, q0 ne k0 _ (I.hok.fresh (Nat.le_refl _))⟩
      exact ⟨Nat.zero_le _, [], .nil, IsTup.new _ _⟩
    · obtain ⟨sz, q2⟩ := q2 ne (by omega)
      have b2 : (decide (k ≤ 0) || its.toArray.isEmpty) = false := by
        rw [ie, Bool.or_false]; exact decide_eq_false k0
      have prod : ((its.toArray.size : Nat) : Int) * k ≤ 1000000 := by
        rw [List.size_toArray, len]
        have e : ((xs.length : Nat) : Int) * k = ((xs.length * k.toNat : Nat) : Int) := by
          rw [Int.natCast_mul, Int.toNat_of_nonneg (by omega)]
        omega
      have b4 : Builtin.Tuple.tupleTooMany (((its.toArray.size : Nat) : Int) * k) = false := by
        unfold Builtin.Tuple.tupleTooMany
        rw [sizeLine_eq]
        exact decide_eq_false (by omega)
      have flen : (List.replicate k.toNat its).flatten.length ≤ sizeLine := by
        rw [PyProof.Rows.lm_len_rep_flat, len, sizeLine_eq, Nat.mul_comm]
        omega
      refine call_meets F.slot_tuple_mul ⟨_, ho, rfl⟩ F.entry_tuple_mul (F.args_tuple_mul_2 _ _) (tuple_mulW l its.toArray n dd sl k t b0 b1 b2 (by omega) b4 (by rw [size_rep, List.size_toArray]; exact flen)) ⟨ho, ?_⟩
      rw [size_rep]
      refine ⟨.ref s.heap.objs.size, _, I.laid (t' := s.toks) (o := .tup (List.replicate k.toNat xs).flatten) (fun b ob q => Heap.get?_push_of_some _ q) (Nat.le_refl _) ?_, rfl, q2 _ (I.hok.fresh (Nat.le_refl _))⟩
      exact ⟨by rw [PyProof.Rows.lm_len_rep_flat, sizeLine_eq, Nat.mul_comm]; omega, _, r.rep k.toNat, IsTup.new _ _⟩
end
end RK
namespace RK
open PySem L2
/-- what is wanted of a primitive's end: data that stands, a new tuple, a new list -/
structure Cont (F : Fc) (Hf H : Hp) (Qd : R → Prop) (Q : VK) : Prop where
  v : ∀ d v, Qd (.v d) → Rep F.K F.fa Hf v d → Q v H
  t : ∀ ds vs p, Qd (.v (.tup ds)) → Reps F.K F.fa Hf vs ds → H p = none → Q (.ref p) (upd H p (.tup vs))
  f : ∀ ds vs p, Qd (.f ds) → Reps F.K F.fa Hf vs ds → H p = none → Q (.ref p) (upd H p (.lst vs))
section
variable {F : Fc} {Hs Hf H Hf' H' Hf0 : Hp} {σ : St} {ρ ρ' ρ0 : En} {v : V}
theorem Step.laid {p : Addr} {o : HO} (S : Step σ ρ0 ρ Hf0 Hs Hf H) (q : Rel F Hf H σ ρ) (h : H p = none) : Step σ ρ0 ρ Hf0 Hs (upd Hf p o) (upd H p o) :=
  ⟨S.le.trans (le_upd (q.none_f h)), fun b u e1 e2 e3 => by
    obtain ⟨k1, k2⟩ := S.out b u e1 e2 e3
    have ne : b ≠ p := ne_of_none k1 h
    rw [upd_ne ne, upd_ne ne]; exact ⟨k1, k2⟩, S.own, S.live, fun a e => by
    by_cases ha : a = p
    · subst ha; rw [upd_same] at e; cases e
    · rw [upd_ne ha] at e; exact S.dom a e⟩
theorem Step.newO {p : Addr} {o : HO} (S : Step σ ρ0 ρ Hf0 Hs Hf H) (h : H p = none) : Step σ ρ0 ρ Hf0 Hs Hf (upd H p o) :=
  ⟨S.le, fun b u e1 e2 e3 => by
    obtain ⟨k1, k2⟩ := S.out b u e1 e2 e3
    rw [upd_ne (ne_of_none k1 h)]; exact ⟨k1, k2⟩, S.own, S.live, fun a e => by
    by_cases ha : a = p
    · subst ha; rw [upd_same] at e; cases e
    · rw [upd_ne ha] at e; exact S.dom a e⟩
theorem cont_of {Qd : R → Prop} {Q : VK} (S : Step σ ρ0 ρ Hf0 Hs Hf H) (q : Rel F Hf H σ ρ) (k : ∀ r, Qd r → ∀ v Hf' H', Step σ ρ0 ρ Hf0 Hs Hf' H' → Rel F Hf' H' σ ρ → RepR F Hs Hf' H' σ ρ v r → Q v H') : Cont F Hf H Qd Q where
  v := fun d v hq r => k _ hq v Hf H S q r
  t := fun ds vs p hq r hp => k _ hq _ _ _ (S.laid q hp) (q.laid hp) (.tup (.inl (.inl upd_same)) (Reps.le (le_upd (q.none_f hp)) r))
  f := fun ds vs p hq r hp => k _ hq _ _ _ (S.newO hp) (q.newO hp) ⟨p, vs, rfl, upd_same, q.none_f hp, r, S.dom p hp⟩
end
mutual
theorem dep_py : ∀ d : D, d.pl = true → PyData.depth d.py = d.dep ∧ PyData.canLay0 d.py = true
  | .non, _ => ⟨rfl, rfl⟩
  | .bl _, _ => ⟨rfl, rfl⟩
  | .int _, _ => ⟨rfl, rfl⟩
  | .str x, h => ⟨rfl, by simpa [D.pl, D.py, PyData.canLay0] using h⟩
  | .tup ds, h => by
    obtain ⟨a, b⟩ := deps_py ds (by simpa only [D.pl] using h)
    simp only [D.py, D.dep, PyData.depth, PyData.canLay0, a, b, Nat.add_comm, and_self]
  | .lst ds, h => by
    obtain ⟨a, b⟩ := deps_py ds (by simpa only [D.pl] using h)
    simp only [D.py, D.dep, PyData.depth, PyData.canLay0, a, b, Nat.add_comm, and_self]
  | .fn _, h => by simp [D.pl] at h
  | .ty _, h => by simp [D.pl] at h
  | .sc _, h => by simp [D.pl] at h
theorem deps_py : ∀ ds : List D, pls ds = true → PyData.depthAll (pys ds) = deps ds ∧ PyData.canLayAll0 (pys ds) = true
  | [], _ => ⟨rfl, rfl⟩
  | d :: r, h => by
    simp only [pls, Bool.and_eq_true] at h
    obtain ⟨a, b⟩ := dep_py d h.1
    obtain ⟨a', b'⟩ := deps_py r h.2
    simp only [pys, deps, PyData.depthAll, PyData.canLayAll0, a, b, a', b', Bool.and_self, and_self]
end
theorem EqOk.shaped {d : D} (h : EqOk d) : SeqAt.shaped d.py = true := by
  obtain ⟨a, b⟩ := dep_py d h.1
  unfold SeqAt.shaped
  rw [b, a, Bool.true_and]
  exact decide_eq_true (Nat.le_trans h.2 (by decide))
/-! ### operators -/
theorem op_fdivX {X : Cx} : OpR X (binaryOp .FloorDiv) (rI CDivX fun i j => .int (i.fdiv j)) := opI fun i j _ _ _ _ _ hc q => PyProof.Rows.floordiv_int hc.1 q (.inl (PyProof.noPylong_of_log2 hc.2))
def OpS (X : Cx) (F : Fc) (f : Value → Value → Sem Value) (opd : D → D → (R → Prop) → Prop) : Prop :=
  OpR X f (fun x y H Q => ∃ Hf dx dy Qd, Le Hf H ∧ RepT F Hf H x dx ∧ RepT F Hf H y dy ∧ opd dx dy Qd ∧ Cont F Hf H Qd Q)
def bop : BOp → Operator
  | .add => .Add | .sub => .Sub | .mul => .Mult | .fdiv => .FloorDiv | .fdn => .FloorDiv | .mod => .Mod | .pow => .Pow
def cop : COp → CmpOp
  | .eq => .Eq | .ne => .NotEq | .lt => .Lt | .le => .LtE | .gt => .Gt | .ge => .GtE | .is_ => .Is | .isnot => .IsNot | .in_ => .In | .notin => .NotIn
section
variable {X : Cx} {F : Fc}
theorem op_bin (hK : X.K = F.K) (op : BOp) : OpS X F (binaryOp (bop op)) (binD op) := by
  intro pins s σ H x y v u Q I rx ry h
  obtain ⟨Hf, dx, dy, Qd, l, hx, hy, o, k⟩ := h
  cases op with
  | add =>
    cases dx <;> cases dy <;> try exact o.elim
    case int.int => cases hx; cases hy; exact op_add pins s σ H _ _ v u Q I rx ry ⟨_, _, rfl, rfl, k.v _ _ o (.int _)⟩
    case str.str => cases hx; cases hy; exact op_add_str pins s σ H _ _ v u Q I rx ry ⟨_, _, rfl, rfl, o.1, k.v _ _ o.2 (.str _)⟩
    case lst.lst =>
      obtain ⟨a, vs, rfl, e, r⟩ := hx
      obtain ⟨b, ws, rfl, e', r'⟩ := hy
      exact op_cat pins s σ H _ _ v u Q I rx ry ⟨_, _, _, _, rfl, rfl, e, e', by rw [r.length, r'.length]; exact o.1, fun p hp => k.f _ _ p o.2 (r.append r') hp⟩
    case tup.tup =>
      rename_i xs ys
      cases hx with
      | tup e r =>
        cases hy with
        | tup e' r' =>
          rename_i a vs b ws
          refine op_catA pins s σ H _ _ v u Q I rx ry ⟨_, _, _, _, rfl, rfl, ?_, ?_, by rw [r.length, r'.length]; exact o.1, fun z => ?_, fun z z' => ?_, fun _ _ p hp => k.t _ _ p o.2 (r.append r') hp⟩
          · rw [hK]; exact l.sqT e
          · rw [hK]; exact l.sqT e'
          · subst z
            have : xs = [] := by have := r.length; simpa using this.symm
            subst this
            exact k.v _ _ o.2 (.tup e' r')
          · subst z'
            have : ys = [] := by have := r'.length; simpa using this.symm
            subst this
            exact k.v (.tup (xs ++ [])) _ o.2 (by rw [List.append_nil]; exact .tup e r)
  | sub =>
    cases dx <;> cases dy <;> try exact o.elim
    case int.int => cases hx; cases hy; exact op_sub pins s σ H _ _ v u Q I rx ry ⟨_, _, rfl, rfl, k.v _ _ o (.int _)⟩
  | mul =>
    cases dx <;> cases dy <;> try exact o.elim
    case int.int =>
      cases hx; cases hy
      rcases o.1 with c | c
      · exact op_mul pins s σ H _ _ v u Q I rx ry ⟨_, _, rfl, rfl, c, k.v _ _ o.2 (.int _)⟩
      · exact op_mulX pins s σ H _ _ v u Q I rx ry ⟨_, _, rfl, rfl, c, k.v _ _ o.2 (.int _)⟩
    case lst.int =>
      obtain ⟨a, vs, rfl, e, r⟩ := hx
      cases hy
      exact op_rep pins s σ H _ _ v u Q I rx ry ⟨_, _, _, rfl, rfl, e, o.1.1, o.1.2.1, by rw [r.length]; exact o.1.2.2, fun p hp => k.f _ _ p o.2 (r.rep _) hp⟩
    case tup.int =>
      rename_i xs z
      cases hy
      cases hx with
      | tup e r =>
        rename_i a vs
        refine op_repA pins s σ H _ _ v u Q I rx ry ⟨_, _, _, rfl, rfl, by rw [hK]; exact l.sqT e, o.1.1, o.1.2.1, fun sm => ?_, fun _ k0 p hp => ?_, fun _ k2 => ⟨by rw [r.length]; exact o.1.2.2, fun p hp => k.t _ _ p o.2 (r.rep _) hp⟩⟩
        · have ex : (List.replicate z.toNat xs).flatten = xs := by
            rcases sm with sm | sm
            · subst sm
              have : xs = [] := by have := r.length; simpa using this.symm
              subst this
              simp
            · subst sm; simp
          refine k.v _ _ o.2 ?_
          rw [ex]; exact .tup e r
        · have ex : (List.replicate z.toNat xs).flatten = [] := by
            rw [show z.toNat = 0 by omega]; rfl
          have := k.t _ [] p o.2 (by rw [ex]; exact .nil) hp
          exact this
  | fdiv =>
    cases dx <;> cases dy <;> try exact o.elim
    case int.int => cases hx; cases hy; exact op_fdivW pins s σ H _ _ v u Q I rx ry ⟨_, _, rfl, rfl, o.1, k.v _ _ o.2 (.int _)⟩
  | fdn =>
    cases dx <;> cases dy <;> try exact o.elim
    case int.int => cases hx; cases hy; exact op_fdivX pins s σ H _ _ v u Q I rx ry ⟨_, _, rfl, rfl, o.1, k.v _ _ o.2 (.int _)⟩
  | mod =>
    cases dx <;> cases dy <;> try exact o.elim
    case int.int => cases hx; cases hy; exact op_mod pins s σ H _ _ v u Q I rx ry ⟨_, _, rfl, rfl, o.1, k.v _ _ o.2 (.int _)⟩
  | pow =>
    cases dx <;> cases dy <;> try exact o.elim
    case int.int => cases hx; cases hy; exact op_pow pins s σ H _ _ v u Q I rx ry ⟨_, _, rfl, rfl, o.1, k.v _ _ o.2 (.int _)⟩
/-- a comparison's -/
def cmpR (op : COp) (x y : D) (Q : R → Prop) : Prop := cmpD op x y fun c => Q (.v (.bl c))
theorem flat_of {F : Fc} {Hf : Hp} {v : V} {d : D} (h : Rep F.K F.fa Hf v d) (e : flatD d = true) : flatV v = true := by
  cases h <;> first | rfl | cases e
theorem eqV_of {F : Fc} {Hf : Hp} {v w : V} {d e : D} (h : Rep F.K F.fa Hf v d) (h' : Rep F.K F.fa Hf w e) (f : flatD d = true) (f' : flatD e = true) : eqV v w = eqD d e := by
  cases h <;> (first | (simp [flatD] at f; done) | skip) <;> cases h' <;> (first | (simp [flatD] at f'; done) | rfl)
end
end RK
namespace RK
open PySem L2
/-! ## built-ins of tuples -/
section
open PySem.Spec PyProof.Rows
variable {X : Cx}
theorem cr_sumT (hc : X.calm = true) : CallR X (.builtin "sum") (fun vs H Q => ∃ (a : Addr) (ns : List Int), vs = [V.ref a] ∧ SqT X.K H a (ns.map V.int) ∧ Q (.int ns.sum) H) := by
  intro pins s σ H vs us Q I r h
  obtain ⟨a, ns, rfl, hs, q⟩ := h
  obtain ⟨its, rv, hl, _⟩ := I.tuple hs
  rw [Vals.ref1 r]
  have hi := rv.ints
  obtain ⟨xs, e⟩ := hi.allInts.items
  have hn : numsOf (intItems xs).toList = ns := by rw [← e]; exact hi.numsOf
  rw [nums_intItems] at hn
  rw [e] at hl
  refine PySem.W.ktm_sumG (I.ok.hd hc) hl fun h' tk t' hk => ?_
  rw [preSum_eq, List.take_of_length_le (by simp), hn]
  exact ⟨.int _, H, I.kept hk, ⟨_, rfl⟩, q⟩
end
section
open PyProof.Rows
variable {prog : Program} {w : World} {A : Around} {E : Value → Shared → Prop} {s : Shared}
theorem collect_tuple {l : Addr} {vs : List Value} {Q : List Value → Shared → Prop} (hl : s.heap.IsTuple l vs.toArray)
    (h : Q vs { s with heap := (s.heap.push (seqObj "list" #[] 0)).update s.heap.objs.size (Obj.mapSeq (· ++ vs.toArray)) }) (hsz : vs.length ≤ sizeLine) :
    wpAny (model prog w) A (collect (.ref l)) Q E s := by
  obtain ⟨o, ho, hc, n, hd⟩ := id hl
  unfold collect
  refine wpAny_bind (wpAny_runValue (codeAny_builtin entry_proto_collect' ?_))
  show wpAny _ _ (do again (.builtin "list.__iadd__" ⟨[← newList [], .ref l], []⟩)) _ _ s
  refine wpAny_bind (wpAny_newList (wpAny_pure ⟨Code.quiet_builtin _ (by decide +kernel), codeAny_builtin entry_list_iadd' ?_⟩))
  show wpAny _ _ (Builtin.List.listExtendWith (.ref s.heap.objs.size) (.ref l) (.ref s.heap.objs.size)) _ _ { s with heap := s.heap.push (seqObj "list" #[] 0) }
  unfold Builtin.List.listExtendWith
  have ho' : (s.heap.push (seqObj "list" #[] 0)).get? l = some o := Heap.get?_push_of_some _ ho
  refine wpAny_bind (wpAny_typeOf (T := "tuple") ⟨o, ho', hc⟩ ?_)
  have ht : (Value.type "tuple" == Value.type "tuple") = true := by rfl
  rw [if_pos (by rw [ht]; simp)]
  refine wpAny_bind (listItems_at ho' hd ?_)
  refine wpAny_bind (listItems_at (xs := #[]) (n := 0) (Heap.get?_push_size _ rfl) rfl ?_)
  rw [if_neg (by simp)]
  refine wpAny_bind (listUpdate_at (xs := #[]) (n := 0) (Heap.get?_push_size _ rfl) rfl ?_ (Nat.zero_le _) (by show (#[] ++ vs.toArray).size ≤ sizeLine + 1; simp only [Array.size_append, List.size_toArray, List.length_nil]; omega))
  refine wpAny_pure ?_
  show wpAny (model prog w) A (do
      let o ← load s.heap.objs.size
      match o.data with
      | .seq xs _ => pure xs.toList
      | _ => unsupported "internal:collect") Q E { s with heap := (s.heap.push (seqObj "list" #[] 0)).update s.heap.objs.size (Obj.mapSeq (· ++ vs.toArray)) }
  refine wpAny_bind (wpAny_load (get?_update_seq (Heap.get?_push_size _ rfl) _) ?_)
  show wpAny _ _ (pure ((#[] : Array Value) ++ vs.toArray).toList) Q E _
  rw [show ((#[] : Array Value) ++ vs.toArray).toList = vs by simp]
  exact wpAny_pure h
/-- sorted of a tuple under a strict weak order -/
theorem sorted_ordT {l : Addr} {vs : List Value} {ltv : Value → Value → Bool} {Q : Value → Shared → Prop} (O : SrtO.Swo ltv) (hl : s.heap.IsTuple l vs.toArray) (hz : vs.length ≤ sizeLine)
    (hS : 2 ≤ vs.length → ∀ (h₁ : Heap) (a : Addr), h₁.get? a = some (seqObj "list" vs.toArray 0) → (∀ b o, s.heap.get? b = some o → b ≠ a ∧ h₁.get? b = some o) → SrtO.SortableO prog w A.in1.in1 { s with heap := h₁ } a vs ltv)
    (h : ∀ out : List Value, SrtO.Srtd ltv out → SrtO.Stb ltv out vs → Q (.ref (s.heap.objs.size + 1)) { s with heap := sortedAll s.heap vs out.toArray }) :
    wpAny (model prog w) A (call (.builtin "sorted") [.ref l]) Q E s := by
  refine Calls.call_function_entry kind_sorted plain_sorted entry_sorted (args_sorted1 _) ?_
  unfold Builtin.«sorted»
  refine wpAny_bind (m := checkCount "sorted" 1 1 _) (wpAny_pure ?_)
  refine wpAny_bind (collect_tuple hl ?_ hz)
  refine wpAny_bind (wpAny_newList ?_ hz)
  have hsz : ((s.heap.push (seqObj "list" #[] 0)).update s.heap.objs.size (Obj.mapSeq (· ++ vs.toArray))).objs.size = s.heap.objs.size + 1 := by
    rw [Heap.size_update, size_push']
  have hoL : (((s.heap.push (seqObj "list" #[] 0)).update s.heap.objs.size (Obj.mapSeq (· ++ vs.toArray))).push (seqObj "list" vs.toArray 0)).get? (s.heap.objs.size + 1) = some (seqObj "list" vs.toArray 0) := by
    rw [← hsz]; exact Heap.get?_push_size _ rfl
  have keep : ∀ b o, s.heap.get? b = some o → b ≠ s.heap.objs.size + 1 ∧ (((s.heap.push (seqObj "list" #[] 0)).update s.heap.objs.size (Obj.mapSeq (· ++ vs.toArray))).push (seqObj "list" vs.toArray 0)).get? b = some o := fun b o q => by
    have hlt : b < s.heap.objs.size := Heap.lt_size q
    refine ⟨Nat.ne_of_lt (Nat.lt_succ_of_lt hlt), Heap.get?_push_of_some _ ?_⟩
    rw [Heap.get?_update_ne _ _ _ _ (Nat.ne_of_lt hlt)]
    exact Heap.get?_push_of_some _ q
  show wpAny _ _ _ _ _ { s with heap := ((s.heap.push (seqObj "list" #[] 0)).update s.heap.objs.size (Obj.mapSeq (· ++ vs.toArray))).push (seqObj "list" vs.toArray 0) }
  rw [hsz]
  refine wpAny_bind (wpAny_holding (wpAny_call_entry slot_list_sort ⟨_, hoL, rfl⟩ entry_list_sort (SrtO.list_sort_ord O hoL hz (fun h2 => hS h2 _ _ hoL keep) fun out hs hb => ⟨_, rfl, ?_⟩) (args_list_sort _)))
  exact wpAny_pure ⟨_, rfl, h out hs hb⟩
end
section
variable {X : Cx}
theorem cr_sortedIT : CallR X (.builtin "sorted") (fun vs H Q => ∃ (a : Addr) (ns : List Int), vs = [V.ref a] ∧ SqT X.K H a (ns.map V.int) ∧ ∀ (ns' : List Int) (p : Addr), ns'.Perm ns → ns'.Pairwise (· ≤ ·) → H p = none → Q (.ref p) (upd H p (.lst (ns'.map V.int)))) := by
  intro pins s σ H vs us Q I r h
  obtain ⟨a, ns, rfl, hs, q⟩ := h
  obtain ⟨its, rv, hl, hz⟩ := I.tuple hs
  rw [Vals.ref1 r]
  have hi := rv.ints
  refine sorted_ordT SrtO.swo_int hl (by rw [← rv.length]; exact hz) (fun h2 h₁ a' _ _ => SrtO.ints_sortable hi h2) fun out h1 h2 => ?_
  obtain ⟨k1, k2, k3⟩ := SrtO.ints_out hi h1 h2
  obtain ⟨ep, he'⟩ := PyProof.Rows.sortedAll_at s.heap its out.toArray
  have hlen : ((out.map SrtO.iv).map V.int).length ≤ sizeLine := by
    rw [List.length_map, k2.length_eq]
    rw [List.length_map] at hz
    exact hz
  exact ⟨.ref _, upd H (s.heap.objs.size + 1) (.lst ((out.map SrtO.iv).map V.int)), I.laid (t' := s.toks) (fun _ _ => PyProof.Rows.sortedAll_old) (Nat.le_succ _) ⟨hlen, out, ep, vals_of_ints k1, he'⟩, rfl, q _ _ k2 k3 (I.hok.fresh (Nat.le_succ _))⟩
def rInT (K : PySem.W.Frag) : R2 := fun x y H Q => ∃ d ds, Dp K H x d ∧ Dp K H y (.tuple ds) ∧ SeqAt.shaped d = true ∧ SeqAt.shaped (.tuple ds) = true ∧ Q (.bl (ds.any fun z => PyData.eqv z d)) H
def rNotInT (K : PySem.W.Frag) : R2 := fun x y H Q => ∃ d ds, Dp K H x d ∧ Dp K H y (.tuple ds) ∧ SeqAt.shaped d = true ∧ SeqAt.shaped (.tuple ds) = true ∧ Q (.bl (!ds.any fun z => PyData.eqv z d)) H
theorem op_inT (hu : X.A.units + 65 < cLine) : OpR X (compareOp .In) (rInT X.K) := by
  intro pins s σ H x y v u Q I rx ry h
  obtain ⟨d, ds, hd, he, sd, se, q⟩ := h
  obtain ⟨as, r1⟩ := Dp.reads I d x v hd rx
  obtain ⟨bs, r2⟩ := Dp.reads I (.tuple ds) y u he ry
  exact SeqAt.in_tuple_reads r2 r1 (SeqAt.canLay_of_shaped se) (SeqAt.canLay_of_shaped sd) (PyProof.Rows.room_in_shaped sd hu) ⟨.bl _, H, I, rfl, q⟩
theorem op_notInT (hu : X.A.units + 65 < cLine) : OpR X (compareOp .NotIn) (rNotInT X.K) := by
  intro pins s σ H x y v u Q I rx ry h
  obtain ⟨d, ds, hd, he, sd, se, q⟩ := h
  obtain ⟨as, r1⟩ := Dp.reads I d x v hd rx
  obtain ⟨bs, r2⟩ := Dp.reads I (.tuple ds) y u he ry
  exact SeqAt.notIn_tuple_reads r2 r1 (SeqAt.canLay_of_shaped se) (SeqAt.canLay_of_shaped sd) (PyProof.Rows.room_in_shaped sd hu) ⟨.bl _, H, I, rfl, q⟩
end
/-! ### lists of tuples of ints -/
section
open PyProof.Rows PyProof.Rows.G
theorem lexI_eq : ∀ a b : List Int, lexLt itemOrd (a.map Sum.inl) (b.map Sum.inl) = lexI a b
  | [], [] => rfl
  | [], _ :: _ => rfl
  | _ :: _, [] => rfl
  | a :: r, b :: t => by
    show (itemLt (.inl a) (.inl b) || (!itemLt (.inl b) (.inl a) && lexLt itemOrd (r.map Sum.inl) (t.map Sum.inl))) = _
    rw [lexI_eq r t]; rfl
theorem tupItems_ints {its : List Value} {ns : List Int} (h : IntsAre its ns) : ∀ i, tupItems (fun _ => false) i its = some (ns.map Sum.inl) := by
  induction h with
  | nil => intro i; rfl
  | cons n t h ih =>
    intro i
    show (tupItems _ (i + 1) _).map _ = _
    rw [ih]; rfl
end
section
open PyProof.Rows PyProof.Rows.G
variable {X : Cx}
/-- what is asked of an item: a tuple of ints, not empty -/
def TupL (K : PySem.W.Frag) (H : Hp) (x : V) (ns : List Int) : Prop := ∃ t, x = V.ref t ∧ SqT K H t (ns.map V.int)
theorem cr_sortedTL : CallR X (.builtin "sorted") (fun vs H Q => ∃ (a : Addr) (xs : List V), vs = [V.ref a] ∧ SqL X.K H a xs ∧ (∀ x ∈ xs, ∃ ns, TupL X.K H x ns ∧ ns ≠ []) ∧
    ∀ (ys : List V) (p : Addr), ys.Perm xs → ys.Pairwise (fun x y => ∀ n m, TupL X.K H x n → TupL X.K H y m → lexI m n = false) → H p = none → Q (.ref p) (upd H p (.lst ys))) := by
  intro pins s σ H vs us Q I r h
  obtain ⟨a, xs, rfl, hs, hx, q⟩ := h
  obtain ⟨its, rv, hl, hz⟩ := I.list hs
  obtain ⟨u, rfl, ru⟩ := vals1 r
  obtain rfl : u = Value.ref a := ru
  obtain ⟨e1, e2⟩ := refs_back rv fun x m => by
    obtain ⟨ns, ⟨t, e, _⟩, _⟩ := hx x m
    exact ⟨t, e⟩
  -- a tuple in the heap
  have key : ∀ (t : Addr) (ns : List Int), SqT X.K H t (ns.map V.int) → ∃ o its2 n, s.heap.get? t = some o ∧ o.cls = .type "tuple" ∧ o.data = .seq its2 n ∧ IntsAre its2.toList ns := fun t ns ht => by
    obtain ⟨its2, r2, ⟨o, ho, hc, n, hd⟩, _⟩ := I.tuple ht
    exact ⟨o, _, n, ho, hc, hd, by simpa using r2.ints⟩
  have kc : ∀ (t : Addr) (ns : List Int), SqT X.K H t (ns.map V.int) → tupKeyC s.heap (fun _ => false) (.ref t) = some (ns.map Sum.inl) := fun t ns ht => by
    obtain ⟨o, its2, n, ho, hc, hd, hi⟩ := key t ns ht
    exact tupKeyC_of ho hc hd (tupItems_ints hi 0)
  have items : ∀ v ∈ its, ∃ t ns, v = .ref t ∧ SqT X.K H t (ns.map V.int) ∧ ns ≠ [] := fun v hv => by
    obtain ⟨t, rfl⟩ := e2 v hv
    have hm : V.ref t ∈ xs := by rw [e1]; exact List.mem_map.mpr ⟨_, hv, rfl⟩
    obtain ⟨ns, ⟨t', e, ht⟩, hne⟩ := hx _ hm
    cases e
    exact ⟨t, ns, rfl, ht, hne⟩
  have ht : ∀ l : List Value, (∀ v ∈ l, ∃ t ns, v = .ref t ∧ SqT X.K H t (ns.map V.int) ∧ ns ≠ []) → ∃ fs, TupsOf s.heap (fun _ => false) l fs := by
    intro l
    induction l with
    | nil => intro _; exact ⟨[], .nil⟩
    | cons v l ih =>
      intro hl
      obtain ⟨fs, hfs⟩ := ih fun v hv => hl v (List.mem_cons_of_mem _ hv)
      obtain ⟨t, ns, rfl, hts, hne⟩ := hl v List.mem_cons_self
      obtain ⟨o, its2, n, ho, hc, hd, hi⟩ := key t ns hts
      cases ns with
      | nil => exact absurd rfl hne
      | cons k ns =>
        generalize hL : its2.toList = L at hi
        cases hi with
        | cons _ tk hi' =>
          refine ⟨_ :: fs, .cons ⟨t, o, its2, n, rfl, ho, hc, hd, ?_, fun _ => ⟨k, tk, rfl⟩, fun z => nomatch z⟩ hfs⟩
          rw [← Array.getElem?_toList, hL]; rfl
  obtain ⟨fs, hfs⟩ := ht its items
  refine sorted_tups (shape := fun _ => false) hl.isList hfs (fun v hv => ?_) (by rw [← rv.length]; exact hz) fun st' hp hs2 _ => ?_
  · obtain ⟨t, ns, rfl, hts, _⟩ := items v hv
    exact ⟨_, kc t ns hts⟩
  · obtain ⟨ep, he'⟩ := sortedAll_at s.heap its ((arrOf st').map (·.2))
    have hp' : (arrOf st').toList.Perm (its.zip its) := by
      rw [← pairsOf_toList]; exact Array.perm_iff_toList_perm.mp hp
    have zz : ∀ l : List Value, (l.zip l).map (·.2) = l := fun l => by
      induction l with
      | nil => rfl
      | cons v l ih => simp only [List.zip_cons_cons, List.map_cons, ih]
    have same : ∀ l : List Value, ∀ p ∈ l.zip l, p.1 = p.2 := fun l => by
      induction l with
      | nil => intro p hp; simp at hp
      | cons v l ih =>
        intro p hp
        simp only [List.zip_cons_cons, List.mem_cons] at hp
        rcases hp with rfl | hp
        · rfl
        · exact ih p hp
    let out : List Value := (arrOf st').toList.map (·.2)
    have ho : out.Perm its := by
      have := hp'.map (·.2)
      rw [zz] at this
      exact this
    have h3 : ∀ u ∈ out, ∃ a, u = Value.ref a := fun u hu => e2 u (ho.mem_iff.mp hu)
    have hpm : (out.map backV).Perm xs := by rw [e1]; exact ho.map backV
    have earr : ((arrOf st').map (·.2)) = out.toArray := by
      apply Array.ext'
      simp [out]
    rw [earr] at he' ⊢
    refine ⟨.ref _, upd H (s.heap.objs.size + 1) (.lst (out.map backV)), I.laid (t' := s.toks) (fun _ _ => sortedAll_old) (Nat.le_succ _) ⟨?_, out, ep, vals_back h3, he'⟩, rfl, q _ _ hpm ?_ (I.hok.fresh (Nat.le_succ _))⟩
    · rw [hpm.length_eq]; exact hz
    · rw [List.pairwise_iff_getElem]
      intro i j hi hj hij n m hn hm
      have li : i < (arrOf st').toList.length := by simpa [out] using hi
      have lj : j < (arrOf st').toList.length := by simpa [out] using hj
      have si : j < (pairsOf its).size := by
        rw [pairsOf_size, ← ho.length_eq]; simpa [out] using hj
      have hk := hs2 i j (by omega) si
      have kk : ∀ (i : Nat) (h : i < (arrOf st').toList.length) (x : V) (ns : List Int), (out.map backV)[i]? = some x → TupL X.K H x ns → KK (tupKindC s.heap fun _ => false) (arrOf st') i = ns.map Sum.inl := by
        intro i h x ns hx ⟨t, e, hts⟩
        subst e
        unfold KK
        have e3 : (arrOf st')[i]? = some ((arrOf st').toList[i]) := by
          rw [← Array.getElem?_toList]; exact List.getElem?_eq_getElem h
        rw [e3]
        show ((tupKeyC s.heap _ ((arrOf st').toList[i]).1).getD _) = _
        have e4 : ((arrOf st').toList[i]).1 = ((arrOf st').toList[i]).2 := same its _ (hp'.mem_iff.mp (List.getElem_mem h))
        have e5 : ((arrOf st').toList[i]).2 = .ref t := by
          rw [List.getElem?_map] at hx
          have e6 : out[i]? = some ((arrOf st').toList[i]).2 := by
            show ((arrOf st').toList.map (·.2))[i]? = _
            rw [List.getElem?_map, List.getElem?_eq_getElem h]; rfl
          rw [e6] at hx
          obtain ⟨t', e7⟩ := h3 ((arrOf st').toList[i]).2 (List.mem_of_getElem? e6)
          rw [e7] at hx ⊢
          have hx : some (V.ref t') = some (V.ref t) := hx
          cases hx; rfl
        rw [e4, e5, kc t ns hts]; rfl
      have h1 := kk i li _ n (List.getElem?_eq_getElem hi) hn
      have h2 := kk j lj _ m (List.getElem?_eq_getElem hj) hm
      have hk : lexLt itemOrd (KK (tupKindC s.heap fun _ => false) (arrOf st') j) (KK (tupKindC s.heap fun _ => false) (arrOf st') i) = false := hk
      rw [h1, h2, lexI_eq] at hk
      exact hk
end
end RK
namespace RK
open PySem L2
section
variable {X : Cx} {F : Fc}
theorem any_of {F : Fc} {Hf : Hp} {w : V} {e : D} (h' : Rep F.K F.fa Hf w e) (f' : flatD e = true) : ∀ {vs : List V} {ds : List D}, Reps F.K F.fa Hf vs ds → ds.all flatD = true → vs.all flatV = true ∧ inV w vs = ds.any fun y => eqD y e
  | _, _, .nil, _ => ⟨rfl, rfl⟩
  | _, _, .cons h t, f => by
    simp only [List.all_cons, Bool.and_eq_true] at f
    obtain ⟨a, b⟩ := any_of h' f' t f.2
    refine ⟨by simp only [List.all_cons, flat_of h f.1, a, Bool.and_self], ?_⟩
    show ((eqV _ w) || inV w _) = _
    rw [b, eqV_of h h' f.1 f']
    rfl
theorem pys_any {e : D} : ∀ ds : List D, ((pys ds).any fun z => PyData.eqv z e.py) = ds.any fun y => eqD y e
  | [] => rfl
  | d :: r => by simp only [pys, List.any_cons, pys_any r]; rfl
theorem Rep.noN {F : Fc} {H : Hp} {v : V} {d : D} (h : Rep F.K F.fa H v d) : decide (v = .non) = (match d with | .non => true | _ => false) := by
  cases h <;> rfl
theorem op_cmp (hK : X.K = F.K) (hu : X.A.units + 65 < cLine) (op : COp) : OpS X F (compareOp (cop op)) (cmpR op) := by
  intro pins s σ H x y v u Q I rx ry h
  obtain ⟨Hf, dx, dy, Qd, l, hx, hy, o, k⟩ := h
  have hu64 : X.A.units + 64 < cLine := Nat.lt_of_succ_lt hu
  cases op with
  | lt => cases dx <;> cases dy <;> try exact o.elim
          case int.int => cases hx; cases hy; exact op_lt pins s σ H _ _ v u Q I rx ry ⟨_, _, rfl, rfl, k.v _ _ o (.bl _)⟩
  | le => cases dx <;> cases dy <;> try exact o.elim
          case int.int => cases hx; cases hy; exact op_le pins s σ H _ _ v u Q I rx ry ⟨_, _, rfl, rfl, k.v _ _ o (.bl _)⟩
  | gt => cases dx <;> cases dy <;> try exact o.elim
          case int.int => cases hx; cases hy; exact op_gt pins s σ H _ _ v u Q I rx ry ⟨_, _, rfl, rfl, k.v _ _ o (.bl _)⟩
  | ge => cases dx <;> cases dy <;> try exact o.elim
          case int.int => cases hx; cases hy; exact op_ge pins s σ H _ _ v u Q I rx ry ⟨_, _, rfl, rfl, k.v _ _ o (.bl _)⟩
  | eq =>
    have o' : EqOk dx ∧ EqOk dy ∧ Qd (.v (.bl (eqD dx dy))) := by
      have := o; unfold cmpR cmpD at this; exact this
    exact op_eqD hu64 pins s σ H _ _ v u Q I rx ry ⟨_, _, by rw [hK]; exact (RepT.rep l hx).dp o'.1.1, by rw [hK]; exact (RepT.rep l hy).dp o'.2.1.1, o'.1.shaped, o'.2.1.shaped, k.v _ _ o'.2.2 (.bl _)⟩
  | ne =>
    have o' : EqOk dx ∧ EqOk dy ∧ Qd (.v (.bl (!eqD dx dy))) := by
      have := o; unfold cmpR cmpD at this; exact this
    exact op_neD hu64 pins s σ H _ _ v u Q I rx ry ⟨_, _, by rw [hK]; exact (RepT.rep l hx).dp o'.1.1, by rw [hK]; exact (RepT.rep l hy).dp o'.2.1.1, o'.1.shaped, o'.2.1.shaped, k.v _ _ o'.2.2 (.bl _)⟩
  | is_ =>
    have hx' := RepT.rep l hx
    have hy' := RepT.rep l hy
    cases dx <;> cases dy <;> (try exact o.elim)
    case bl.bl => cases hx'; cases hy'; exact op_is_bl pins s σ H _ _ v u Q I rx ry ⟨_, _, rfl, rfl, k.v _ _ o (.bl _)⟩
    all_goals
      cases hy'
      exact op_isN pins s σ H _ _ v u Q I rx ry ⟨rfl, by rw [hx'.noN]; exact k.v _ _ o (.bl _)⟩
  | isnot =>
    have hx' := RepT.rep l hx
    have hy' := RepT.rep l hy
    cases dx <;> cases dy <;> (try exact o.elim)
    case bl.bl => cases hx'; cases hy'; exact op_isnot_bl pins s σ H _ _ v u Q I rx ry ⟨_, _, rfl, rfl, k.v _ _ o (.bl _)⟩
    all_goals
      cases hy'
      exact op_notN pins s σ H _ _ v u Q I rx ry ⟨rfl, by rw [hx'.noN]; exact k.v _ _ o (.bl _)⟩
  | in_ =>
    have hx' := RepT.rep l hx
    cases dy <;> (try (cases dx <;> exact o.elim))
    case lst ys =>
      have o' : EqOk dx ∧ EqOk (.lst ys) ∧ Qd (.v (.bl (ys.any fun y => eqD y dx))) := by
        have := o; unfold cmpR cmpD at this; cases dx <;> exact this
      exact op_inD hu pins s σ H _ _ v u Q I rx ry ⟨dx.py, pys ys, by rw [hK]; exact hx'.dp o'.1.1, by rw [hK]; exact (RepT.rep l hy).dp o'.2.1.1, o'.1.shaped, o'.2.1.shaped, by rw [pys_any]; exact k.v _ _ o'.2.2 (.bl _)⟩
    case tup ys =>
      have o' : EqOk dx ∧ EqOk (.tup ys) ∧ Qd (.v (.bl (ys.any fun y => eqD y dx))) := by
        have := o; unfold cmpR cmpD at this; cases dx <;> exact this
      exact op_inT hu pins s σ H _ _ v u Q I rx ry ⟨dx.py, pys ys, by rw [hK]; exact hx'.dp o'.1.1, by rw [hK]; exact (RepT.rep l hy).dp o'.2.1.1, o'.1.shaped, o'.2.1.shaped, by rw [pys_any]; exact k.v _ _ o'.2.2 (.bl _)⟩
  | notin =>
    have hx' := RepT.rep l hx
    cases dy <;> (try (cases dx <;> exact o.elim))
    case lst ys =>
      have o' : EqOk dx ∧ EqOk (.lst ys) ∧ Qd (.v (.bl (!ys.any fun y => eqD y dx))) := by
        have := o; unfold cmpR cmpD at this; cases dx <;> exact this
      exact op_notInD hu pins s σ H _ _ v u Q I rx ry ⟨dx.py, pys ys, by rw [hK]; exact hx'.dp o'.1.1, by rw [hK]; exact (RepT.rep l hy).dp o'.2.1.1, o'.1.shaped, o'.2.1.shaped, by rw [pys_any]; exact k.v _ _ o'.2.2 (.bl _)⟩
    case tup ys =>
      have o' : EqOk dx ∧ EqOk (.tup ys) ∧ Qd (.v (.bl (!ys.any fun y => eqD y dx))) := by
        have := o; unfold cmpR cmpD at this; cases dx <;> exact this
      exact op_notInT hu pins s σ H _ _ v u Q I rx ry ⟨dx.py, pys ys, by rw [hK]; exact hx'.dp o'.1.1, by rw [hK]; exact (RepT.rep l hy).dp o'.2.1.1, o'.1.shaped, o'.2.1.shaped, by rw [pys_any]; exact k.v _ _ o'.2.2 (.bl _)⟩
/-! ### built-in functions -/
def CaS (X : Cx) (F : Fc) (f : Value) (cd : List D → (R → Prop) → Prop) : Prop :=
  CallR X f (fun xs H Q => ∃ Hf ds Qd, Le Hf H ∧ RepTs F Hf H xs ds ∧ cd ds Qd ∧ Cont F Hf H Qd Q)
def biV : Bi → Value
  | .len => .builtin "len" | .abs => .builtin "abs" | .int => .type "int" | .str => .type "str" | .tuple => .type "tuple" | .list => .type "list"
  | .sum => .builtin "sum" | .sorted => .builtin "sorted" | .min => .builtin "min" | .max => .builtin "max" | .all => .builtin "all" | .any => .builtin "any" | .sortT => .builtin "sorted"
theorem reps_ints_of {F : Fc} {Hf : Hp} : ∀ {vs : List V} {ds : List D} {ns : List Int}, Reps F.K F.fa Hf vs ds → intsD ds = some ns → vs = ns.map V.int ∧ ds = ns.map D.int
  | _, _, ns, .nil, e => by simp [intsD] at e; subst e; exact ⟨rfl, rfl⟩
  | _, _, ns, .cons (d := d) (ds := ds) h t, e => by
    cases d with
    | int i =>
      simp only [intsD, Option.map_eq_some_iff] at e
      obtain ⟨ms, e1, rfl⟩ := e
      obtain ⟨a, b⟩ := reps_ints_of t e1
      cases h
      exact ⟨by rw [a]; rfl, by rw [b]; rfl⟩
    | _ => simp [intsD] at e
theorem reps_bols_of {F : Fc} {Hf : Hp} : ∀ {vs : List V} {ds : List D} {bs : List Bool}, Reps F.K F.fa Hf vs ds → bolsD ds = some bs → vs = bs.map V.bl
  | _, _, bs, .nil, e => by simp [bolsD] at e; subst e; rfl
  | _, _, bs, .cons (d := d) (ds := ds) h t, e => by
    cases d with
    | bl i =>
      simp only [bolsD, Option.map_eq_some_iff] at e
      obtain ⟨ms, e1, rfl⟩ := e
      cases h
      rw [reps_bols_of t e1]; rfl
    | _ => simp [bolsD] at e
theorem Reps.perm {K : PySem.W.Frag} {fa : Nat → Addr} {H : Hp} {ys vs : List V} (h : ys.Perm vs) : ∀ {ds : List D}, Reps K fa H vs ds → ∃ ds', Reps K fa H ys ds' ∧ ds'.Perm ds := by
  induction h with
  | nil => intro ds r; exact ⟨ds, r, .refl _⟩
  | cons x h ih =>
    intro ds r
    cases r with
    | cons a b =>
      obtain ⟨ds', r', p⟩ := ih b
      exact ⟨_ :: ds', .cons a r', p.cons _⟩
  | swap x y l =>
    intro ds r
    cases r with
    | cons a b =>
      cases b with
      | cons b c => exact ⟨_ :: _ :: _, .cons b (.cons a c), .swap ..⟩
  | trans h1 h2 ih1 ih2 =>
    intro ds r
    obtain ⟨d2, r2, p2⟩ := ih2 r
    obtain ⟨d1, r1, p1⟩ := ih1 r2
    exact ⟨d1, r1, p1.trans p2⟩
theorem ca_bi (hK : X.K = F.K) (hc : X.calm = true) (b : Bi) : CaS X F (biV b) (biD b) := by
  intro pins s σ H xs us Q I rxs h
  obtain ⟨Hf, ds, Qd, l, hd, o, k⟩ := h
  match ds, xs, hd with
  | [], [], _ => cases b <;> exact o.elim
  | [d], [x], ⟨hx, _⟩ =>
    cases b with
    | len =>
      cases d <;> try exact o.elim
      case lst ds =>
        obtain ⟨a, vs, rfl, e, r⟩ := hx
        exact call_len pins s σ H _ us Q I rxs ⟨_, vs.length, rfl, .inl ⟨vs, .inl (.inl e), rfl⟩, by rw [r.length]; exact k.v _ _ o (.int _)⟩
      case tup ds =>
        cases hx with
        | tup e r => exact call_len pins s σ H _ us Q I rxs ⟨_, _, rfl, .inr ⟨_, by rw [hK]; exact l.sqT e, rfl⟩, by rw [r.length]; exact k.v _ _ o (.int _)⟩
      case str z => cases hx; exact call_len pins s σ H _ us Q I rxs ⟨_, z.length, rfl, ⟨o.1, rfl⟩, k.v _ _ o.2 (.int _)⟩
    | abs =>
      cases d <;> try exact o.elim
      case int i => cases hx; exact call_abs pins s σ H _ us Q I rxs ⟨_, rfl, k.v _ _ o (.int _)⟩
    | int =>
      cases d <;> try exact o.elim
      case int i => cases hx; exact call_int1 pins s σ H _ us Q I rxs (.inl ⟨_, rfl, k.v _ _ o (.int _)⟩)
      case bl i => cases hx; exact call_int1 pins s σ H _ us Q I rxs (.inr ⟨_, rfl, k.v _ _ o (.int _)⟩)
    | str =>
      cases d <;> try exact o.elim
      case int i => cases hx; exact call_str_int pins s σ H _ us Q I rxs ⟨_, rfl, o.1, k.v _ _ o.2 (.str _)⟩
      case str i => cases hx; exact SkE.call_str_str pins s σ H _ us Q I rxs ⟨_, rfl, k.v _ _ o (.str _)⟩
    | tuple =>
      cases d <;> try exact o.elim
      case lst ds =>
        obtain ⟨a, vs, rfl, e, r⟩ := hx
        exact call_tuple_of pins s σ H _ us Q I rxs ⟨_, vs, rfl, .inl ⟨.inl (.inl e), fun p hp => k.t _ _ p o r hp⟩⟩
      case tup ds =>
        cases hx with
        | tup e r => exact call_tuple_of pins s σ H _ us Q I rxs ⟨_, _, rfl, .inr ⟨by rw [hK]; exact l.sqT e, k.v _ _ o (.tup e r)⟩⟩
    | list =>
      cases d <;> try exact o.elim
      case lst ds =>
        obtain ⟨a, vs, rfl, e, r⟩ := hx
        exact call_list_of pins s σ H _ us Q I rxs ⟨_, vs, rfl, .inl (.inl (.inl e)), fun p hp => k.f _ _ p o r hp⟩
      case tup ds =>
        cases hx with
        | tup e r => exact call_list_of pins s σ H _ us Q I rxs ⟨_, _, rfl, .inr (by rw [hK]; exact l.sqT e), fun p hp => k.f _ _ p o r hp⟩
      case sc ns =>
        cases hx with
        | sc e => exact call_list_of pins s σ H _ us Q I rxs ⟨_, _, rfl, .inl (by rw [hK]; exact l.sqL e), fun p hp => k.f _ _ p o (reps_ints ns) hp⟩
    | sum =>
      cases d <;> try exact o.elim
      case tup ds =>
        obtain ⟨ns, e1, o⟩ := o
        cases hx with
        | tup e r =>
          obtain ⟨rfl, rfl⟩ := reps_ints_of r e1
          exact cr_sumT hc pins s σ H _ us Q I rxs ⟨_, ns, rfl, by rw [hK]; exact l.sqT e, k.v _ _ o (.int _)⟩
      case lst ds =>
        obtain ⟨a, vs, rfl, e, r⟩ := hx
        obtain ⟨ns, e1, o⟩ := o
        obtain ⟨rfl, rfl⟩ := reps_ints_of r e1
        exact cr_sum hc pins s σ H _ us Q I rxs ⟨_, ns, rfl, .inl (.inl e), k.v _ _ o (.int _)⟩
    | sortT =>
      cases d <;> try exact o.elim
      case lst ds =>
        obtain ⟨a, vs, rfl, e, r⟩ := hx
        obtain ⟨o1, o2⟩ := o
        have tl : ∀ (x : V) (ns : List Int), Rep F.K F.fa Hf x (tupI ns) → TupL X.K H x ns := fun x ns h => by
          cases h with
          | tup e2 r2 =>
            cases ints_of_reps r2
            exact ⟨_, rfl, by rw [hK]; exact l.sqT e2⟩
        have inj : ∀ (x : V) (ns ms : List Int), TupL X.K H x ns → TupL X.K H x ms → ns = ms := fun x ns ms ⟨t, e1, h1⟩ ⟨t', e2, h2⟩ => by
          subst e1; cases e2
          have := I.tuple_inj h1 h2
          exact (List.map_inj_right (fun a b h => by cases h; rfl)).mp this
        refine cr_sortedTL pins s σ H _ us Q I rxs ⟨a, vs, rfl, .inl (.inl e), fun x hx => ?_, fun ys p hp hw hn => ?_⟩
        · obtain ⟨i, hi, hx⟩ := List.getElem_of_mem hx
          obtain ⟨d, hd, rd⟩ := r.getV (List.getElem?_eq_some_iff.mpr ⟨hi, hx⟩)
          obtain ⟨ns, hne, rfl⟩ := o1 d (List.mem_of_getElem? hd)
          exact ⟨ns, tl _ _ rd, hne⟩
        · obtain ⟨ds', rd, pd⟩ := Reps.perm hp r
          refine k.f _ _ p (o2 ds' pd ?_) rd hn
          rw [List.pairwise_iff_getElem]
          intro i j hi hj hij n m en em
          have hl := rd.length
          rw [List.pairwise_iff_getElem] at hw
          obtain ⟨v1, g1, k1⟩ := rd.get (List.getElem?_eq_getElem hi)
          obtain ⟨v2, g2, k2⟩ := rd.get (List.getElem?_eq_getElem hj)
          rw [en] at k1
          rw [em] at k2
          have w := hw i j (by omega) (by omega) hij n m
          rw [(List.getElem?_eq_some_iff.mp g1).2, (List.getElem?_eq_some_iff.mp g2).2] at w
          exact w (tl _ _ k1) (tl _ _ k2)
    | sorted =>
      cases d <;> try exact o.elim
      case tup ds =>
        obtain ⟨ns, e1, o⟩ := o
        cases hx with
        | tup e r =>
          obtain ⟨rfl, rfl⟩ := reps_ints_of r e1
          exact cr_sortedIT pins s σ H _ us Q I rxs ⟨_, ns, rfl, by rw [hK]; exact l.sqT e, fun ns' p h1 h2 hp => k.f _ _ p (o ns' h1 h2) (reps_ints ns') hp⟩
      case lst ds =>
        obtain ⟨a, vs, rfl, e, r⟩ := hx
        obtain ⟨ns, e1, o⟩ := o
        obtain ⟨rfl, rfl⟩ := reps_ints_of r e1
        exact cr_sortedI pins s σ H _ us Q I rxs ⟨_, ns, rfl, .inl (.inl e), fun ns' p h1 h2 hp => k.f _ _ p (o ns' h1 h2) (reps_ints ns') hp⟩
    | all =>
      cases d <;> try exact o.elim
      case lst ds =>
        obtain ⟨a, vs, rfl, e, r⟩ := hx
        obtain ⟨bs, e1, o⟩ := o
        have := reps_bols_of r e1
        subst this
        exact cr_all hc pins s σ H _ us Q I rxs ⟨_, bs, rfl, .inl (.inl e), k.v _ _ o (.bl _)⟩
    | any =>
      cases d <;> try exact o.elim
      case lst ds =>
        obtain ⟨a, vs, rfl, e, r⟩ := hx
        obtain ⟨bs, e1, o⟩ := o
        have := reps_bols_of r e1
        subst this
        exact cr_any hc pins s σ H _ us Q I rxs ⟨_, bs, rfl, .inl (.inl e), k.v _ _ o (.bl _)⟩
    | min =>
      cases d <;> try exact o.elim
      case lst ds =>
        obtain ⟨a, vs, rfl, e, r⟩ := hx
        obtain ⟨ns, e1, e2, o⟩ := o
        obtain ⟨rfl, rfl⟩ := reps_ints_of r e1
        exact cr_min hc pins s σ H _ us Q I rxs ⟨_, ns, rfl, .inl (.inl e), e2, fun m h1 h2 => k.v _ _ (o m h1 h2) (.int _)⟩
    | max =>
      cases d <;> try exact o.elim
      case lst ds =>
        obtain ⟨a, vs, rfl, e, r⟩ := hx
        obtain ⟨ns, e1, e2, o⟩ := o
        obtain ⟨rfl, rfl⟩ := reps_ints_of r e1
        exact cr_max hc pins s σ H _ us Q I rxs ⟨_, ns, rfl, .inl (.inl e), e2, fun m h1 h2 => k.v _ _ (o m h1 h2) (.int _)⟩
  | [d, d'], [x, x'], ⟨hx, hx', _⟩ =>
    cases b <;> (try (cases d <;> exact o.elim))
    case min =>
      cases d <;> (try exact o.elim) <;> cases d' <;> try exact o.elim
      case int.int => cases hx; cases hx'; exact call_min2 hc pins s σ H _ us Q I rxs ⟨_, _, rfl, k.v _ _ o (.int _)⟩
    case max =>
      cases d <;> (try exact o.elim) <;> cases d' <;> try exact o.elim
      case int.int => cases hx; cases hx'; exact call_max2 hc pins s σ H _ us Q I rxs ⟨_, _, rfl, k.v _ _ o (.int _)⟩
  | d :: d' :: d'' :: ds, _, _ => cases b <;> (first | exact o.elim | (cases d <;> exact o.elim) | (cases d <;> cases d' <;> exact o.elim))
end
end RK
namespace RK
open PySem L2
section
variable {X : Cx} {F : Fc}
theorem truV_of (hK : X.K = F.K) {Hf H : Hp} {v : V} {d : D} {k : Bool} (l : Le Hf H) (h : RepT F Hf H v d) (e : truD d = some k) : TruV X.K v H k := by
  cases d with
  | non => cases h; simp [truD] at e; subst e; rfl
  | bl b => cases h; simp [truD] at e; subst e; rfl
  | int i => cases h; simp only [truD, Option.some.injEq] at e; subst e; rfl
  | str _ => simp [truD] at e
  | fn _ => simp [truD] at e
  | ty _ => simp [truD] at e
  | sc _ => simp [truD] at e
  | tup ds =>
    simp only [truD, Option.some.injEq] at e; subst e
    cases h with
    | tup e r =>
      rename_i a vs
      refine .inr (.inl ⟨vs, by rw [hK]; exact l.sqT e, ?_⟩)
      have := r.length
      cases vs <;> cases ds <;> first | rfl | simp at this
  | lst ds =>
    simp only [truD, Option.some.injEq] at e; subst e
    obtain ⟨a, vs, rfl, e, r⟩ := h
    refine .inl ⟨vs, .inl (.inl e), ?_⟩
    have := r.length
    cases vs <;> cases ds <;> first | rfl | simp at this
theorem tyX_of (hK : X.K = F.K) {Hf H : Hp} {v : V} {d : D} {t : String} (l : Le Hf H) (h : RepT F Hf H v d) (e : tyD d = some t) : TyX X.K H v (.type t) := by
  cases d with
  | non => cases h; simp [tyD] at e; subst e; exact .base .non
  | bl b => cases h; simp [tyD] at e; subst e; exact .base (.bl _)
  | int i => cases h; simp [tyD] at e; subst e; exact .base (.int _)
  | str _ => cases h; simp [tyD] at e; subst e; exact .base (.str _)
  | fn _ => simp [tyD] at e
  | ty _ => simp [tyD] at e
  | sc _ => simp [tyD] at e
  | tup ds =>
    simp [tyD] at e; subst e
    cases h with
    | tup e r =>
      rcases l.sqT e with (e | ⟨o, e⟩) | ⟨o, its, n, e, c, _⟩
      · exact .base (.tup e)
      · exact .fTuple e
      · exact .kTuple (by rw [hK]; exact e) c
  | lst ds =>
    simp [tyD] at e; subst e
    obtain ⟨a, vs, rfl, e, r⟩ := h
    exact .base (.lst e)
theorem isi_kit {K : PySem.W.Frag} {d : D} {t : String} {k : Bool} (e : isiD d t = some k) : ∃ u, tyD d = some u ∧ PySem.W.kitOne K (.type u) (.type t) = some k := by
  unfold isiD at e
  cases hu : tyD d with
  | none => rw [hu] at e; cases e
  | some u =>
    rw [hu] at e
    simp only at e
    split at e
    · rename_i ht
      refine ⟨u, rfl, ?_⟩
      have hu' : u = "NoneType" ∨ u = "bool" ∨ u = "int" ∨ u = "str" ∨ u = "tuple" ∨ u = "list" := by
        cases d <;> simp [tyD] at hu <;> subst hu <;> simp
      simp only [Bool.or_eq_true, beq_iff_eq] at ht
      injection e with e
      rcases ht with (((ht | ht) | ht) | ht) | ht <;> subst ht <;> rcases hu' with hu' | hu' | hu' | hu' | hu' | hu' <;> subst hu' <;> subst e <;> exact kit_ty (by decide +kernel)
    · cases e
theorem atI_of {F : Fc} {Hf : Hp} {vs : List V} {ds : List D} {k : Int} {d : D} (r : Reps F.K F.fa Hf vs ds) (e : atI ds k = some d) : ∃ v, atI vs k = some v ∧ Rep F.K F.fa Hf v d := by
  unfold atI at e ⊢
  rw [r.length]
  cases h : ixN ds.length k with
  | none => rw [h] at e; cases e
  | some j => rw [h] at e; exact r.get e
def idxR (x y : D) (Q : R → Prop) : Prop := idxD x y fun d => Q (.v d)
theorem ix_ok (hK : X.K = F.K) : IxR X (fun x y H Q => ∃ Hf dx dy Qd, Le Hf H ∧ RepT F Hf H x dx ∧ RepT F Hf H y dy ∧ idxR dx dy Qd ∧ Cont F Hf H Qd Q) := by
  intro va sl pins s σ H x y v u Q I rx ry h
  obtain ⟨Hf, dx, dy, Qd, l, hx, hy, o, k⟩ := h
  refine ix_seq va sl pins s σ H x y v u Q I rx ry ?_
  cases dx <;> (try exact o.elim) <;> cases dy <;> try exact o.elim
  case lst.int =>
    obtain ⟨a, vs, rfl, e, r⟩ := hx
    cases hy
    obtain ⟨d, e1, q⟩ := o
    obtain ⟨w, e2, r2⟩ := atI_of r e1
    exact .inl ⟨_, vs, _, w, rfl, rfl, .inl (.inl e), e2, k.v _ _ q r2⟩
  case tup.int =>
    cases hy
    cases hx with
    | tup e r =>
      obtain ⟨d, e1, q⟩ := o
      obtain ⟨w, e2, r2⟩ := atI_of r e1
      exact .inr (.inl ⟨_, _, _, w, rfl, rfl, by rw [hK]; exact l.sqT e, e2, k.v _ _ q r2⟩)
end
/-! ### lifts -/
abbrev WE := En → (R → En → Prop) → Prop
abbrev WT := En → (Bool → En → Prop) → Prop
abbrev WR := En → (List R → En → Prop) → Prop
def MonoE (w : WE) : Prop := ∀ ρ Q Q', (∀ r ρ', Q r ρ' → Q' r ρ') → w ρ Q → w ρ Q'
def MonoT (w : WT) : Prop := ∀ ρ Q Q', (∀ r ρ', Q r ρ' → Q' r ρ') → w ρ Q → w ρ Q'
def MonoR (w : WR) : Prop := ∀ ρ Q Q', (∀ r ρ', Q r ρ' → Q' r ρ') → w ρ Q → w ρ Q'
def lE (F : Fc) (w : WE) : TE := fun σ H Q => ∃ Hf ρ, Rel F Hf H σ ρ ∧ w ρ fun r ρ' => ∀ v Hf' H', Step σ ρ ρ' Hf H Hf' H' → Rel F Hf' H' σ ρ' → RepR F H Hf' H' σ ρ' v r → Q v H'
def lT (F : Fc) (w : WT) : TT := fun σ H Q => ∃ Hf ρ, Rel F Hf H σ ρ ∧ w ρ fun k ρ' => ∀ Hf' H', Step σ ρ ρ' Hf H Hf' H' → Rel F Hf' H' σ ρ' → Q k H'
def lR (F : Fc) (w : WR) : TA := fun σ H Q => ∃ Hf ρ, Rel F Hf H σ ρ ∧ w ρ fun rs ρ' => ∀ vs Hf' H', Step σ ρ ρ' Hf H Hf' H' → Rel F Hf' H' σ ρ' → RepRs F H Hf' H' σ ρ' vs rs → Q vs H'
theorem PE.imp {X : Cx} {e : Expr} {t t' : TE} (h : PE X e t) (i : ∀ σ H Q, t' σ H Q → t σ H Q) : PE X e t' := ⟨fun pins s σ H Q I q => h.run pins s σ H Q I (i σ H Q q)⟩
theorem PT.imp {X : Cx} {e : Expr} {t t' : TT} (h : PT X e t) (i : ∀ σ H Q, t' σ H Q → t σ H Q) : PT X e t' := ⟨fun pins s σ H Q I q => h.run pins s σ H Q I (i σ H Q q)⟩
theorem PW.imp {X : Cx} {e : Expr} {t t' : TT} (h : PW X e t) (i : ∀ σ H Q, t' σ H Q → t σ H Q) : PW X e t' := ⟨fun w pins s σ H Q I q => h.run w pins s σ H Q I (i σ H Q q)⟩
theorem PA.imp {X : Cx} {e : List Expr} {t t' : TA} (h : PA X e t) (i : ∀ σ H Q, t' σ H Q → t σ H Q) : PA X e t' := ⟨fun p pins s σ H Q I q => h.run p pins s σ H Q I (i σ H Q q)⟩
section
variable {X : Cx} {F : Fc} {wa wb wc : WE} {e a b c : Expr} {es : List Expr} {pos : Pos}
/-- two in a row: the first one's value as it stands behind the second -/
theorem two (ma : MonoE wa) (mb : MonoE wb) {σ : St} {H : Hp} {K : R → R → En → Prop} {G : V → V → Hp → Prop} {Hf : Hp} {ρ : En} (q : Rel F Hf H σ ρ) (h : wa ρ fun r1 ρ1 => wb ρ1 fun r2 ρ2 => K r1 r2 ρ2)
    (f : ∀ r1 r2 ρ2 v1 v2 Hf2 H2, K r1 r2 ρ2 → Step σ ρ ρ2 Hf H Hf2 H2 → Rel F Hf2 H2 σ ρ2 → RepR F H Hf2 H2 σ ρ2 v1 r1 → RepR F H Hf2 H2 σ ρ2 v2 r2 → G v1 v2 H2) : lE F wa σ H fun x H1 => lE F wb σ H1 fun y H2 => G x y H2 := by
  refine ⟨Hf, ρ, q, ma _ _ _ (fun r1 ρ1 h1 v1 Hf1 H1 S1 q1 rep1 => ⟨Hf1, ρ1, q1, mb _ _ _ (fun r2 ρ2 h2 v2 Hf2 H2 S2 q2 rep2 => ?_) h1⟩) h⟩
  exact f r1 r2 ρ2 v1 v2 Hf2 H2 h2 (S1.trans S2) q2 (rep1.step q S1 S2) (rep2.from S1.dom)
end
end RK
namespace RK
open PySem L2
theorem keepR_mono {ρ : En} {r : R} {Q Q' : D → En → Prop} (h : ∀ d ρ', Q d ρ' → Q' d ρ') (k : keepR ρ r Q) : keepR ρ r Q' := by
  unfold keepR at k ⊢
  cases r with
  | v d => exact h _ _ k
  | f ds => exact h _ _ k
  | b i =>
    simp only at k ⊢
    split <;> rename_i e <;> simp only [e] at k <;> first | exact h _ _ k | exact k
theorem keepRs_mono : ∀ {rs : List R} {ρ : En} {Q Q' : List D → En → Prop}, (∀ d ρ', Q d ρ' → Q' d ρ') → keepRs ρ rs Q → keepRs ρ rs Q'
  | [], _, _, _, h, k => h _ _ k
  | r :: rs, _, _, _, h, k => keepR_mono (fun _ _ k => keepRs_mono (fun _ _ q => h _ _ q) k) k
theorem keepB_mono {ρ : En} {r : R} {Q Q' : R → En → Prop} (h : ∀ d ρ', Q d ρ' → Q' d ρ') (k : keepB ρ r Q) : keepB ρ r Q' := by
  unfold keepB at k ⊢
  cases r with
  | v d => exact h _ _ k
  | f ds => exact h _ _ k
  | b i => exact keepR_mono (fun _ _ q => h _ _ q) k
theorem keepBs_mono : ∀ {rs : List R} {ρ : En} {Q Q' : List R → En → Prop}, (∀ d ρ', Q d ρ' → Q' d ρ') → keepBs ρ rs Q → keepBs ρ rs Q'
  | [], _, _, _, h, k => h _ _ k
  | r :: rs, _, _, _, h, k => keepB_mono (fun _ _ k => keepBs_mono (fun _ _ q => h _ _ q) k) k
theorem binD_mono {op : BOp} {x y : D} {Q Q' : R → Prop} (h : ∀ r, Q r → Q' r) (k : binD op x y Q) : binD op x y Q' := by
  unfold binD at k ⊢
  split <;> simp only at k <;> first | exact h _ k | exact ⟨k.1, h _ k.2⟩ | exact k
theorem cmpD_mono {op : COp} {x y : D} {Q Q' : Bool → Prop} (h : ∀ r, Q r → Q' r) (k : cmpD op x y Q) : cmpD op x y Q' := by
  unfold cmpD at k ⊢
  split <;> simp only at k <;> first | exact h _ k | exact ⟨k.1, k.2.1, h _ k.2.2⟩ | exact k
theorem biD_mono {b : Bi} {ds : List D} {Q Q' : R → Prop} (h : ∀ r, Q r → Q' r) (k : biD b ds Q) : biD b ds Q' := by
  unfold biD at k ⊢
  split <;> simp only at k <;> first
    | exact h _ k
    | exact ⟨k.1, h _ k.2⟩
    | exact ⟨k.1, fun ys a b => h _ (k.2 ys a b)⟩
    | exact k
    | (obtain ⟨ns, e, q⟩ := k; exact ⟨ns, e, h _ q⟩)
    | (obtain ⟨ns, e, q⟩ := k; exact ⟨ns, e, fun m a b => h _ (q m a b)⟩)
    | (obtain ⟨ns, e, e', q⟩ := k; exact ⟨ns, e, e', fun m a b => h _ (q m a b)⟩)
theorem idxD_mono {x y : D} {Q Q' : D → Prop} (h : ∀ r, Q r → Q' r) (k : idxD x y Q) : idxD x y Q' := by
  unfold idxD at k ⊢
  split <;> simp only at k <;> first | exact k | (obtain ⟨d, e, q⟩ := k; exact ⟨d, e, h _ q⟩)
theorem rngD_mono {ds : List D} {Q Q' : List D → Prop} (h : ∀ r, Q r → Q' r) (k : rngD ds Q) : rngD ds Q' := by
  unfold rngD at k ⊢
  split <;> simp only at k <;> first | exact k | exact ⟨k.1, h _ k.2⟩ | (obtain ⟨n, e, q⟩ := k; exact ⟨n, e, h _ q⟩)
theorem slcD_mono {x : D} {lo hi : Option Int} {Q Q' : R → Prop} (h : ∀ r, Q r → Q' r) (k : slcD x lo hi Q) : slcD x lo hi Q' := by
  unfold slcD at k ⊢
  split <;> simp only at k <;> first | exact k | exact h _ k
theorem revD_mono {x : D} {Q Q' : R → Prop} (h : ∀ r, Q r → Q' r) (k : revD x Q) : revD x Q' := by
  unfold revD at k ⊢
  split <;> simp only at k <;> first | exact k | exact h _ k
theorem rgvD_mono {t : Bool} {x : List D} {Q Q' : R → Prop} (h : ∀ r, Q r → Q' r) (k : rgvD t x Q) : rgvD t x Q' := by
  unfold rgvD at k ⊢
  split <;> simp only at k <;> first
    | exact k
    | (refine ⟨k.1, ?_⟩
       have k := k.2
       cases t
       · exact h _ k
       · exact h _ k)
theorem optK_mono {o : Option (Option Int)} {Q Q' : Option Int → Prop} (h : ∀ r, Q r → Q' r) (k : optK o Q) : optK o Q' := by
  unfold optK at k ⊢
  cases o with
  | none => exact k
  | some i => exact h _ k
theorem zipD_mono {x y : D} {Q Q' : List D → Prop} (h : ∀ r, Q r → Q' r) (k : zipD x y Q) : zipD x y Q' := by
  unfold zipD at k ⊢
  split <;> simp only at k <;> first | exact k | exact h _ k
theorem enumD_mono {x : D} {Q Q' : List D → Prop} (h : ∀ r, Q r → Q' r) (k : enumD x Q) : enumD x Q' := by
  unfold enumD at k ⊢
  split <;> simp only at k <;> first | exact k | exact h _ k
theorem itemsD_mono {d : D} {Q Q' : List D → Prop} (h : ∀ r, Q r → Q' r) (k : itemsD d Q) : itemsD d Q' := by
  unfold itemsD at k ⊢
  split <;> simp only at k <;> first | exact k | exact h _ k
theorem asgs_mono : ∀ {is : List Nat} {ds : List D} {ρ : En} {Q Q' : En → Prop}, (∀ r, Q r → Q' r) → asgs ρ is ds Q → asgs ρ is ds Q'
  | [], [], _, _, _, h, k => h _ k
  | i :: is, d :: ds, ρ, _, _, h, k => ⟨k.1, asgs_mono h k.2⟩
  | [], _ :: _, _, _, _, _, k => k.elim
  | _ :: _, [], _, _, _, _, k => k.elim
theorem setRs_mono : ∀ {is : List Nat} {ds : List R} {ρ : En} {Q Q' : En → Prop}, (∀ r, Q r → Q' r) → setRs ρ is ds Q → setRs ρ is ds Q'
  | [], [], _, _, _, h, k => h _ k
  | i :: is, d :: ds, ρ, _, _, h, k => ⟨k.1, setRs_mono h k.2⟩
  | [], _ :: _, _, _, _, _, k => k.elim
  | _ :: _, [], _, _, _, _, k => k.elim
theorem asgT_mono {t : Tg} {r : R} {ρ : En} {Q Q' : En → Prop} (h : ∀ r, Q r → Q' r) (k : asgT t r ρ Q) : asgT t r ρ Q' := by
  cases t with
  | n i =>
    refine ⟨k.1, ?_⟩
    have k := k.2
    cases r with
    | v d => exact h _ k
    | f d => exact h _ k
    | b j => exact keepR_mono (fun _ _ q => h _ q) k
  | t l =>
    unfold asgT at k ⊢
    refine keepR_mono (fun d ρ1 q => ?_) k
    cases d <;> first | exact q | exact ⟨q.1, asgs_mono h q.2⟩
theorem methD_mono {m : Me} {r : R} {ds : List D} {ρ : En} {Q Q' : R → En → Prop} (h : ∀ r ρ, Q r ρ → Q' r ρ) (k : methD m r ds ρ Q) : methD m r ds ρ Q' := by
  unfold methD at k ⊢
  by_cases hm : m = .count
  · rw [if_pos hm] at k ⊢
    unfold countD at k ⊢
    split at k
    · obtain ⟨ns, e, q⟩ := k; exact ⟨ns, e, h _ _ q⟩
    · exact k.elim
  rw [if_neg hm] at k ⊢
  cases r with
  | v d => exact k
  | f d => exact k
  | b i =>
    simp only at k ⊢
    cases e : ρ[i]? with
    | none => simp only [e] at k
    | some s =>
      simp only [e] at k ⊢
      cases s with
      | no => exact k
      | v d => exact k
      | io d => exact k
      | ow xs =>
        simp only at k ⊢
        split at k
        · exact ⟨k.1, h _ _ k.2⟩
        · obtain ⟨d, e, q⟩ := k; exact ⟨d, e, h _ _ q⟩
        · obtain ⟨ns, j, e, e2, e3, q⟩ := k; exact ⟨ns, j, e, e2, e3, h _ _ q⟩
        · obtain ⟨n, d, e, e2, q⟩ := k; exact ⟨n, d, e, e2, h _ _ q⟩
        · exact k.elim
def SpMono (C : Ct) : Prop := ∀ f ds Q Q' E E', (∀ d o, Q d o → Q' d o) → (∀ x, E x → E' x) → C.sp f ds Q E → C.sp f ds Q' E'
theorem finD_mono {C : Ct} (hC : SpMono C) {f : Nat} {E : Xn → En → Prop} {kk : List D → En} {ρ' : En} {Q Q' : R → En → Prop} (h : ∀ r ρ, Q r ρ → Q' r ρ) {ds : List D} (q : finD C f E kk ρ' Q ds) : finD C f E kk ρ' Q' ds :=
  hC f ds _ _ _ _ (fun d o z => by
    cases hf : C.fr f with
    | true => rw [hf] at z; cases d <;> first | exact h _ _ z | exact z
    | false => rw [hf] at z; exact h _ _ z) (fun _ z => z) q
theorem callD_mono {C : Ct} (hC : SpMono C) {f : Nat} {rs : List R} {ρ : En} {Q Q' : R → En → Prop} {E : Xn → En → Prop} (h : ∀ r ρ, Q r ρ → Q' r ρ) (k : callD C f rs ρ Q E) : callD C f rs ρ Q' E := by
  unfold callD at k ⊢
  cases hio : C.io f with
  | none =>
    simp only [hio] at k ⊢
    exact keepRs_mono (fun ds ρ' q => finD_mono hC h q) k
  | some n =>
    simp only [hio] at k ⊢
    cases rs with
    | nil => exact k
    | cons r rest =>
      cases r with
      | v d => exact k
      | f ds => exact k
      | b i =>
        refine keepRs_mono (fun ds ρ' q => ?_) k
        cases e : ρ'[i]? with
        | none => simp only [e] at q
        | some s =>
          simp only [e] at q ⊢
          cases s with
          | no => exact q
          | v d => exact q
          | ow xs => exact finD_mono hC h q
          | io xs => exact finD_mono hC h q
theorem lcL_mono {step : D → En → (Option D → En → Prop) → Prop} (hs : ∀ d ρ k k', (∀ o ρ', k o ρ' → k' o ρ') → step d ρ k → step d ρ k') : ∀ {ds acc : List D} {ρ : En} {Q Q' : List D → En → Prop}, (∀ d ρ', Q d ρ' → Q' d ρ') → lcL step ds acc ρ Q → lcL step ds acc ρ Q'
  | [], _, _, _, _, h, k => h _ _ k
  | d :: r, _, _, _, _, h, k => hs _ _ _ _ (fun o ρ' q => by
    cases o with
    | some x => exact ⟨q.1, lcL_mono hs h q.2⟩
    | none => exact lcL_mono hs h q) k
theorem tru_mono {d : D} {ρ : En} {Q Q' : Bool → En → Prop} (h : ∀ r ρ, Q r ρ → Q' r ρ) (k : match truD d with | some k => Q k ρ | none => False) : match truD d with | some k => Q' k ρ | none => False := by
  revert k
  cases truD d with
  | none => exact id
  | some b => exact h _ _
section
variable {C : Ct} (hC : SpMono C)
include hC
mutual
theorem wE_mono : ∀ (x : Ex) (E : Xn → En → Prop), MonoE (wE C x E)
  | .v i, E => fun ρ Q Q' h k => by
    unfold wE at k ⊢
    split <;> rename_i e <;> simp only [e] at k <;> first | exact h _ _ k | exact k
  | .c d, E => fun ρ Q Q' h k => by unfold wE at k ⊢; exact h _ _ k
  | .g x, E => fun ρ Q Q' h k => by
    unfold wE at k ⊢
    split <;> rename_i e <;> simp only [e] at k <;> first | exact h _ _ k | exact k
  | .bin op a b, E => fun ρ Q Q' h k => by
    unfold wE at k ⊢
    exact wE_mono a E _ _ _ (fun _ _ k => wE_mono b E _ _ _ (fun _ _ k => binD_mono (fun _ q => h _ _ q) k) k) k
  | .neg a, E => fun ρ Q Q' h k => by
    unfold wE at k ⊢
    refine wE_mono a E _ _ _ (fun _ _ k => ?_) k
    split <;> rename_i e <;> simp only [e] at k <;> first | exact h _ _ k | exact k
  | .cmp op a b, E => fun ρ Q Q' h k => by
    unfold wE at k ⊢
    exact wE_mono a E _ _ _ (fun _ _ k => wE_mono b E _ _ _ (fun _ _ k => cmpD_mono (fun _ q => h _ _ q) k) k) k
  | .cmp2 op op' a b c, E => fun ρ Q Q' h k => by
    unfold wE at k ⊢
    refine wE_mono a E _ _ _ (fun _ _ k => wE_mono b E _ _ _ (fun _ _ k => cmpD_mono (fun kb q => ?_) k) k) k
    cases kb with
    | true => exact wE_mono c E _ _ _ (fun _ _ k => cmpD_mono (fun _ q => h _ _ q) k) q
    | false => exact h _ _ q
  | .and_ a b, E => fun ρ Q Q' h k => by
    unfold wE at k ⊢
    refine wE_mono a E _ _ _ (fun r ρ1 => ?_) k
    cases truD (get ρ1 r) with
    | none => exact id
    | some c => cases c with
      | true => exact wE_mono b E _ _ _ h
      | false => exact h _ _
  | .or_ a b, E => fun ρ Q Q' h k => by
    unfold wE at k ⊢
    refine wE_mono a E _ _ _ (fun r ρ1 => ?_) k
    cases truD (get ρ1 r) with
    | none => exact id
    | some c => cases c with
      | true => exact h _ _
      | false => exact wE_mono b E _ _ _ h
  | .not_ a, E => fun ρ Q Q' h k => by
    unfold wE at k ⊢
    refine wE_mono a E _ _ _ (fun _ _ k => ?_) k
    split <;> rename_i e <;> simp only [e] at k <;> first | exact h _ _ k | exact k
  | .ite c a b, E => fun ρ Q Q' h k => by
    unfold wE at k ⊢
    refine wT_mono c E _ _ _ (fun k1 _ k => ?_) k
    cases k1 with
    | true => exact wE_mono a E _ _ _ h k
    | false => exact wE_mono b E _ _ _ h k
  | .tup es, E => fun ρ Q Q' h k => by
    unfold wE at k ⊢
    exact wRs_mono es E _ _ _ (fun _ _ k => keepRs_mono (fun _ _ q => ⟨q.1, h _ _ q.2⟩) k) k
  | .lst es, E => fun ρ Q Q' h k => by
    unfold wE at k ⊢
    exact wRs_mono es E _ _ _ (fun _ _ k => keepRs_mono (fun _ _ q => ⟨q.1, h _ _ q.2⟩) k) k
  | .call f es, E => fun ρ Q Q' h k => by
    unfold wE at k ⊢
    exact wRs_mono es E _ _ _ (fun _ _ k => callD_mono hC h k) k
  | .bi b es, E => fun ρ Q Q' h k => by
    unfold wE at k ⊢
    exact wRs_mono es E _ _ _ (fun _ _ k => biD_mono (fun _ q => h _ _ q) k) k
  | .isi a t, E => fun ρ Q Q' h k => by
    unfold wE at k ⊢
    refine wE_mono a E _ _ _ (fun _ _ k => ?_) k
    split <;> rename_i e <;> simp only [e] at k <;> first | exact h _ _ k | exact k
  | .idx a i, E => fun ρ Q Q' h k => by
    unfold wE at k ⊢
    exact wE_mono a E _ _ _ (fun _ _ k => wE_mono i E _ _ _ (fun _ _ k => idxD_mono (fun _ q => h _ _ q) k) k) k
  | .slc a lo hi, E => fun ρ Q Q' h k => by
    unfold wE at k ⊢
    exact wE_mono a E _ _ _ (fun _ _ k => wRs_mono lo E _ _ _ (fun _ _ k => optK_mono (fun _ k => wRs_mono hi E _ _ _ (fun _ _ k => optK_mono (fun _ k => slcD_mono (fun _ q => h _ _ q) k) k) k) k) k) k
  | .comp elt tg it ifs own, E => fun ρ Q Q' h k => by
    unfold wE at k ⊢
    refine ⟨k.1, wI_mono it E _ _ _ (fun items ρ1 k => ?_) k.2⟩
    refine lcL_mono (fun d ρ2 kk kk' hk s => ?_) (fun _ _ q => h _ _ q) k
    refine asgT_mono (fun ρ3 s => wTs_mono ifs _ _ _ _ (fun c ρ4 s => ?_) s) s
    cases c with
    | true => exact wE_mono elt _ _ _ _ (fun _ _ s => keepR_mono (fun _ _ s => hk _ _ s) s) s
    | false => exact hk _ _ s
  | .rev a, E => fun ρ Q Q' h k => by
    unfold wE at k ⊢
    exact wE_mono a E _ _ _ (fun _ _ k => revD_mono (fun _ q => h _ _ q) k) k
  | .rgv t es, E => fun ρ Q Q' h k => by
    unfold wE at k ⊢
    exact wRs_mono es E _ _ _ (fun _ _ k => rgvD_mono (fun _ q => h _ _ q) k) k
  | .meth m o es, E => fun ρ Q Q' h k => by
    unfold wE at k ⊢
    exact wE_mono o E _ _ _ (fun _ _ k => ⟨k.1, wRs_mono es E _ _ _ (fun _ _ k => keepRs_mono (fun _ _ k => methD_mono h k) k) k.2⟩) k
theorem wRs_mono : ∀ (x : List Ex) (E : Xn → En → Prop), MonoR (wRs C x E)
  | [], E => fun ρ Q Q' h k => by unfold wRs at k ⊢; exact h _ _ k
  | e :: es, E => fun ρ Q Q' h k => by
    unfold wRs at k ⊢
    exact wE_mono e E _ _ _ (fun _ _ k => wRs_mono es E _ _ _ (fun _ _ q => h _ _ q) k) k
theorem wT_mono : ∀ (x : Ex) (E : Xn → En → Prop), MonoT (wT C x E)
  | .and_ a b, E => fun ρ Q Q' h k => by
    unfold wT at k ⊢
    refine wT_mono a E _ _ _ (fun c _ k => ?_) k
    cases c with
    | true => exact wT_mono b E _ _ _ h k
    | false => exact h _ _ k
  | .or_ a b, E => fun ρ Q Q' h k => by
    unfold wT at k ⊢
    refine wT_mono a E _ _ _ (fun c _ k => ?_) k
    cases c with
    | true => exact h _ _ k
    | false => exact wT_mono b E _ _ _ h k
  | .not_ a, E => fun ρ Q Q' h k => by
    unfold wT at k ⊢
    exact wT_mono a E _ _ _ (fun c _ k => h _ _ k) k
  | .ite _ _ _, E => fun ρ Q Q' h k => by unfold wT at k; exact k.elim
  | .v i, E => fun ρ Q Q' h k => by unfold wT at k ⊢; exact wE_mono (.v i) E _ _ _ (fun _ _ k => tru_mono h k) k
  | .c i, E => fun ρ Q Q' h k => by unfold wT at k ⊢; exact wE_mono (.c i) E _ _ _ (fun _ _ k => tru_mono h k) k
  | .g i, E => fun ρ Q Q' h k => by unfold wT at k ⊢; exact wE_mono (.g i) E _ _ _ (fun _ _ k => tru_mono h k) k
  | .bin i j l, E => fun ρ Q Q' h k => by unfold wT at k ⊢; exact wE_mono (.bin i j l) E _ _ _ (fun _ _ k => tru_mono h k) k
  | .neg i, E => fun ρ Q Q' h k => by unfold wT at k ⊢; exact wE_mono (.neg i) E _ _ _ (fun _ _ k => tru_mono h k) k
  | .cmp i j l, E => fun ρ Q Q' h k => by unfold wT at k ⊢; exact wE_mono (.cmp i j l) E _ _ _ (fun _ _ k => tru_mono h k) k
  | .cmp2 i j l m n, E => fun ρ Q Q' h k => by unfold wT at k ⊢; exact wE_mono (.cmp2 i j l m n) E _ _ _ (fun _ _ k => tru_mono h k) k
  | .tup i, E => fun ρ Q Q' h k => by unfold wT at k ⊢; exact wE_mono (.tup i) E _ _ _ (fun _ _ k => tru_mono h k) k
  | .lst i, E => fun ρ Q Q' h k => by unfold wT at k ⊢; exact wE_mono (.lst i) E _ _ _ (fun _ _ k => tru_mono h k) k
  | .call i j, E => fun ρ Q Q' h k => by unfold wT at k ⊢; exact wE_mono (.call i j) E _ _ _ (fun _ _ k => tru_mono h k) k
  | .bi i j, E => fun ρ Q Q' h k => by unfold wT at k ⊢; exact wE_mono (.bi i j) E _ _ _ (fun _ _ k => tru_mono h k) k
  | .isi i j, E => fun ρ Q Q' h k => by unfold wT at k ⊢; exact wE_mono (.isi i j) E _ _ _ (fun _ _ k => tru_mono h k) k
  | .idx i j, E => fun ρ Q Q' h k => by unfold wT at k ⊢; exact wE_mono (.idx i j) E _ _ _ (fun _ _ k => tru_mono h k) k
  | .slc i j l, E => fun ρ Q Q' h k => by unfold wT at k ⊢; exact wE_mono (.slc i j l) E _ _ _ (fun _ _ k => tru_mono h k) k
  | .comp i j l m n, E => fun ρ Q Q' h k => by unfold wT at k ⊢; exact wE_mono (.comp i j l m n) E _ _ _ (fun _ _ k => tru_mono h k) k
  | .rev i, E => fun ρ Q Q' h k => by unfold wT at k ⊢; exact wE_mono (.rev i) E _ _ _ (fun _ _ k => tru_mono h k) k
  | .rgv i j, E => fun ρ Q Q' h k => by unfold wT at k ⊢; exact wE_mono (.rgv i j) E _ _ _ (fun _ _ k => tru_mono h k) k
  | .meth i j l, E => fun ρ Q Q' h k => by unfold wT at k ⊢; exact wE_mono (.meth i j l) E _ _ _ (fun _ _ k => tru_mono h k) k
theorem wTs_mono : ∀ (x : List Ex) (E : Xn → En → Prop), MonoT (wTs C x E)
  | [], E => fun ρ Q Q' h k => by unfold wTs at k ⊢; exact h _ _ k
  | c :: cs, E => fun ρ Q Q' h k => by
    unfold wTs at k ⊢
    refine wT_mono c E _ _ _ (fun c _ k => ?_) k
    cases c with
    | true => exact wTs_mono cs E _ _ _ h k
    | false => exact h _ _ k
theorem wI_mono : ∀ (x : It') (E : Xn → En → Prop), ∀ ρ Q Q', (∀ r ρ', Q r ρ' → Q' r ρ') → wI C x E ρ Q → wI C x E ρ Q'
  | .e x, E => fun ρ Q Q' h k => by
    unfold wI at k ⊢
    exact wE_mono x E _ _ _ (fun _ _ k => keepR_mono (fun _ _ k => itemsD_mono (fun _ q => h _ _ q) k) k) k
  | .rng es, E => fun ρ Q Q' h k => by
    unfold wI at k ⊢
    exact wRs_mono es E _ _ _ (fun _ _ k => rngD_mono (fun _ q => h _ _ q) k) k
  | .zip a b, E => fun ρ Q Q' h k => by
    unfold wI at k ⊢
    exact wE_mono a E _ _ _ (fun _ _ k => wE_mono b E _ _ _ (fun _ _ k => keepR_mono (fun _ _ k => keepR_mono (fun _ _ k => zipD_mono (fun _ q => h _ _ q) k) k) k) k) k
  | .enum a, E => fun ρ Q Q' h k => by
    unfold wI at k ⊢
    exact wE_mono a E _ _ _ (fun _ _ k => keepR_mono (fun _ _ k => enumD_mono (fun _ q => h _ _ q) k) k) k
end
end
end RK
namespace RK
open PySem L2
/-! ## promises of defs -/
structure Fr (ioa : Option Addr) (Hf H Hf' H' : Hp) : Prop where
  le : Le Hf Hf'
  sub : Le Hf' H'
  keep : ∀ a o, H a = some o → Hf a = none → ioa ≠ some a → H' a = some o ∧ Hf' a = none
  dom : ∀ a, H' a = none → H a = none
def Res (K : PySem.W.Frag) (fa : Nat → Addr) (H Hf' H' : Hp) (v : V) : Bool → D → Prop
  | true, .lst xs => ∃ p ws, v = .ref p ∧ H' p = some (.lst ws) ∧ Hf' p = none ∧ Reps K fa Hf' ws xs ∧ H p = none
  | true, _ => True
  | false, d => Rep K fa Hf' v d
def IoOut (K : PySem.W.Frag) (fa : Nat → Addr) (Hf' H' : Hp) (o : List D) : Option Addr → Prop
  | none => True
  | some a => ∃ ws, H' a = some (.lst ws) ∧ Hf' a = none ∧ Reps K fa Hf' ws o
def Argsd (K : PySem.W.Frag) (fa : Nat → Addr) (Hf H : Hp) (vs : List V) (ds : List D) : Bool → Option Addr → Prop
  | false, none => Reps K fa Hf vs ds
  | true, some a => ∃ ws vs' xs ds', vs = .ref a :: vs' ∧ ds = .lst xs :: ds' ∧ H a = some (.lst ws) ∧ Hf a = none ∧ Reps K fa Hf ws xs ∧ Reps K fa Hf vs' ds'
  | _, _ => False
def limS : Str := "limit"
def XnR (K : PySem.W.Frag) (fa : Nat → Addr) (Hf H : Hp) (cls : Value) (dd : Option Addr) (x : Xn) : Prop :=
  cls = .ref (fa x.k) ∧ ∀ a r, x.arg = a :: r → ∃ dx v, dd = some dx ∧ H dx = some (.xd [(limS, v)]) ∧ Rep K fa Hf v a
def lSp (K : PySem.W.Frag) (fa : Nat → Addr) (io fr : Bool) (sp : List D → (D → List D → Prop) → (Xn → Prop) → Prop) : Sp := fun vs H Q E =>
  ∃ (Hf : Hp) (ds : List D) (Qd : D → List D → Prop) (Ed : Xn → Prop) (ioa : Option Addr), Le Hf H ∧ sp ds Qd Ed ∧ Argsd K fa Hf H vs ds io ioa ∧
    (∀ d o v Hf' H', Qd d o → Fr ioa Hf H Hf' H' → Res K fa H Hf' H' v fr d → IoOut K fa Hf' H' o ioa → Q v H') ∧
    (∀ x cls dd Hf' H', Ed x → Fr ioa Hf H Hf' H' → XnR K fa Hf' H' cls dd x → E cls dd H')
/-! ## the table, the checker -/
structure Tab where
  N : List Str
  fn : Nat → Str
  nf : Nat
  x0 : Nat
  nx : Nat
structure FnE (X : Cx) (F : Fc) (C : Ct) (T : Tab) (f : Nat) : Prop where
  ex : ∃ k fd ps, FnOk X.prog X.w X.K X.mg X.base (L2.CX X.prog X.w) k (F.fa f) fd ps (lSp F.K F.fa (C.io f).isSome (C.fr f) (C.sp f)) ∧ Room k X.A ∧ X.mg (T.fn f) = some (.ref (F.fa f)) ∧
    PySem.W.keepIn X.K (.ref (F.fa f)) = true ∧ L2.Binds X.K fd ps []
def bltNames : List Str := ["len", "abs", "int", "str", "tuple", "list", "sum", "sorted", "min", "max", "isinstance", "range", "bool", "enumerate", "zip", "set", "dict", "all", "any"]
structure Gd (X : Cx) (F : Fc) (C : Ct) (T : Tab) (sc : Scope) (W : WX) (E : Xn → En → Prop) : Prop where
  K : X.K = F.K
  calm : X.calm = true
  N : X.N = T.N
  nd : T.N.Nodup
  sc : X.env.scope = sc
  units : X.A.units + 65 < cLine
  mono : SpMono C
  fns : ∀ f, f < T.nf → FnE X F C T f
  glb : ∀ x d, C.gl x = some d → ∃ v u, X.mg x = some u ∧ RelV v u ∧ ∀ H, Rep F.K F.fa H v d
  blt : ∀ x, x ∈ bltNames → X.mg x = none
  tk : Takes X W
  we : ∀ x ρ Hf H σ cls dd, Rel F Hf H σ ρ → E x ρ → XnR F.K F.fa Hf H cls dd x → W cls dd σ H
def visB (sc : Scope) (x : Str) : Bool := match sc.names.lookup x with
  | some .local => true | some .cell => true | some .free => true | _ => false
def locB (sc : Scope) (x : Str) : Bool := match sc.names.lookup x with
  | some .local => true | some .cell => true | _ => false
def glB (sc : Scope) (x : Str) : Bool := match sc.names.lookup x with
  | some .globalImplicit => true | _ => false
def okN (x : Str) : Bool := !(x == ("__debug__" : Str)) && !(x == ("__classdict__" : Str))
def noStar : Expr → Bool
  | .Starred _ _ => false
  | _ => true
def noSet : Expr → Bool
  | .Set _ _ _ => false
  | _ => true
def noSlice : Expr → Bool
  | .Slice _ _ _ _ => false
  | _ => true
def cEq : Lt → Const → Bool
  | .non, .none => true
  | .bl b, .bool c => b == c
  | .int i, .int j => i == j
  | .str x, .str y => x == y
  | _, _ => false
def biN : Bi → Str
  | .len => "len" | .abs => "abs" | .int => "int" | .str => "str" | .tuple => "tuple" | .list => "list"
  | .sum => "sum" | .sorted => "sorted" | .min => "min" | .max => "max" | .all => "all" | .any => "any" | .sortT => "sorted"
def meN : Me → Str
  | .append => "append" | .pop => "pop" | .popat => "pop" | .insert => "insert" | .index => "index" | .count => "count" | .reverse => "reverse" | .sort => "sort" | .remove => "remove"
def meA : Me → Nat
  | .append => 1 | .pop => 0 | .popat => 1 | .insert => 2 | .index => 1 | .count => 1 | .reverse => 0 | .sort => 0 | .remove => 1
def strS (t : String) : Str := Str.ofString t
def mGn (T : Tab) (ok : Str → Bool) (own : Option (List Nat)) (i : Nat) : Expr → Bool
  | .Name x _ => T.N[i]? == some x && ok x && (match own with | some l => l.contains i | none => true)
  | _ => false
def mGl (T : Tab) (ok : Str → Bool) (own : Option (List Nat)) : List Nat → List Expr → Bool
  | [], [] => true
  | i :: is, e :: es => mGn T ok own i e && mGl T ok own is es
  | _, _ => false
def mG (T : Tab) (ok : Str → Bool) (own : Option (List Nat)) : Tg → Expr → Bool
  | .n i, e => mGn T ok own i e
  | .t l, .Tuple es _ _ => mGl T ok own l es
  | _, _ => false
def revOf : Expr → Option Expr
  | .Subscript x (.Slice none none (some (.UnaryOp o (.Constant c _ _) _)) _) _ => (match decide (o = .USub) && cEq (.int 1) c with
    | true => some x
    | false => none)
  | _ => none
def rgvOf (t : Bool) (sc : Scope) : Expr → Option (List Expr)
  | .Call (.Name x _) [.Call (.Name y _) xs [] _] [] _ => (match x == (if t = true then ("tuple" : Str) else "list") && glB sc x && y == ("range" : Str) && glB sc y with
    | true => some xs
    | false => none)
  | _ => none
section
variable (T : Tab)
mutual
def mE : Ex → Scope → Expr → Bool
  | .v i, sc, .Name x _ => T.N[i]? == some x && visB sc x && okN x
  | .c d, _, .Constant k _ _ => cEq d k
  | .g x, sc, .Name y _ => x == y && glB sc x && okN x
  | .bin op a b, sc, .BinOp l o r _ => decide (o = bop op) && mE a sc l && mE b sc r
  | .neg a, sc, .UnaryOp o x _ => decide (o = .USub) && mE a sc x
  | .cmp op a b, sc, .Compare l [o] [r] _ => decide (o = cop op) && mE a sc l && mE b sc r && noSet r
  | .cmp2 op op' a b c, sc, .Compare l [o, o'] [r, r'] _ => decide (o = cop op) && decide (o' = cop op') && mE a sc l && mE b sc r && mE c sc r' && noSet r && noSet r'
  | .and_ a b, sc, .BoolOp .And (e1 :: e2 :: rest) p => mE a sc e1 && (match rest with
    | [] => mE b sc e2
    | _ => mE b sc (.BoolOp .And (e2 :: rest) p))
  | .or_ a b, sc, .BoolOp .Or (e1 :: e2 :: rest) p => mE a sc e1 && (match rest with
    | [] => mE b sc e2
    | _ => mE b sc (.BoolOp .Or (e2 :: rest) p))
  | .not_ a, sc, .UnaryOp o x _ => decide (o = .Not) && mE a sc x
  | .ite c a b, sc, .IfExp t x y _ => mE c sc t && mE a sc x && mE b sc y
  | .tup es, sc, .Tuple xs _ _ => mEs es sc xs
  | .lst es, sc, .List xs _ => mEs es sc xs
  | .call f es, sc, .Call (.Name x _) xs [] _ => decide (f < T.nf) && x == T.fn f && glB sc x && okN x && !xs.isEmpty && mEs es sc xs
  | .bi b es, sc, .Call (.Name x _) xs [] _ => x == biN b && glB sc x && !xs.isEmpty && mEs es sc xs
  | .isi a t, sc, .Call (.Name x _) [e, .Name y _] [] _ => x == ("isinstance" : Str) && glB sc x && bltNames.contains y && y == strS t && glB sc y && mE a sc e && noStar e &&
      (t == "int" || t == "bool" || t == "tuple" || t == "list" || t == "str")
  | .idx a i, sc, .Subscript x y _ => mE a sc x && mE i sc y && noSlice y
  | .slc a lo hi, sc, .Subscript x (.Slice l u none _) _ => mE a sc x && mO lo sc l && mO hi sc u
  | .rev a, sc, e => (match revOf e with
    | some x => mE a sc x
    | none => false)
  | .rgv t es, sc, e => (match rgvOf t sc e with
    | some xs => mEs es sc xs && (xs.length == 1 || xs.length == 2)
    | none => false)
  | .comp elt tg it ifs own, sc, .ListComp e [⟨t, i, fs, z⟩] scope _ => decide (z = 0) && blkC T.N sc scope own && mI it t sc i && noSet i && mG T (locB scope) (some (own.map (·.2))) tg t && mTs ifs (relS scope sc) fs && mE elt (relS scope sc) e
  | .meth m o es, sc, .Call (.Attribute (.Name y yp) n apos) xs [] pos => n == meN m && mE o sc (.Name y yp) && mEs es sc xs && (apos.endLine == pos.line) && decide (es.length = meA m) && (decide (m = .append) || decide (m = .pop) || decide (m = .remove) || decide (m = .popat) || decide (m = .count))
  | _, _, _ => false
def mEs : List Ex → Scope → List Expr → Bool
  | [], _, [] => true
  | e :: es, sc, x :: xs => mE e sc x && noStar x && mEs es sc xs
  | _, _, _ => false
def mTs : List Ex → Scope → List Expr → Bool
  | [], _, [] => true
  | [c], sc, [x] => mE c sc x
  | _, _, _ => false
def mO : List Ex → Scope → Option Expr → Bool
  | [], _, none => true
  | [x], sc, some e => mE x sc e
  | _, _, _ => false
def mI : It' → Expr → Scope → Expr → Bool
  | .e x, _, sc, e => mE x sc e
  | .rng es, _, sc, .Call (.Name x _) xs [] _ => x == ("range" : Str) && glB sc x && mEs es sc xs && (xs.length == 1 || xs.length == 2 || xs.length == 3)
  | .zip a b, .Tuple _ _ _, sc, .Call (.Name x _) [e, f] [] _ => x == ("zip" : Str) && glB sc x && mE a sc e && mE b sc f && noStar e && noStar f
  | .enum a, .Tuple _ _ _, sc, .Call (.Name x _) [e] [] _ => x == ("enumerate" : Str) && glB sc x && mE a sc e && noStar e
  | _, _, _, _ => false
end
end
end RK
namespace RK
open PySem L2
theorem vis_of {sc : Scope} {x : Str} (h : visB sc x = true) : Vis sc x := by
  unfold visB at h
  unfold Vis
  split at h <;> rename_i e
  · exact .inl e
  · exact .inr (.inl e)
  · exact .inr (.inr e)
  · cases h
theorem loc_of {sc : Scope} {x : Str} (h : locB sc x = true) : L2.Loc sc x := by
  unfold locB at h
  unfold L2.Loc
  split at h <;> rename_i e
  · exact .inl e
  · exact .inr e
  · cases h
theorem gl_of {X : Cx} {sc : Scope} {x : Str} (hs : X.env.scope = sc) (h : glB sc x = true) : Gl X x := by
  unfold glB at h
  split at h <;> rename_i e
  · show X.env.scope.names.lookup x = _
    rw [hs]; exact e
  · cases h
theorem okN_of {x : Str} (h : okN x = true) : (x == ("__debug__" : Str)) = false ∧ (x == ("__classdict__" : Str)) = false := by
  simpa [okN] using h
theorem starEach_ns {e : Expr} {es : List Expr} {env : Env} (h : noStar e = true) : starEach (e :: es) env = (false, eval e env) :: starEach es env := by
  cases e <;> first | rfl | cases h
theorem noMark {op : CmpOp} {e : Expr} (h : noSet e = true) : behindInMarks op e = false := by
  cases e <;> first | rfl | cases h
theorem plainIx_of {e : Expr} (h : noSlice e = true) : PlainIx e := by
  intro o i
  cases e <;> first | rfl | cases h
theorem behind_any {es : List Expr} {env : Env} {pos : Pos} : ∀ {xs : List Ex} {T : Tab} {sc : Scope}, mEs T xs sc es = true → (backTo pos (starEach es env)).any (·.1) = false := by
  induction es with
  | nil => intro _ _ _ _; rfl
  | cons e es ih =>
    intro xs T sc h
    cases xs with
    | nil => simp [mEs] at h
    | cons x xs =>
      simp only [mEs, Bool.and_eq_true] at h
      rw [starEach_ns h.1.2]
      have := ih h.2
      unfold backTo at this ⊢
      rw [List.map_cons, List.any_cons, this]
      rfl
section
variable {X : Cx} {F : Fc} {C : Ct} {T : Tab} {sc : Scope} {W : WX} {E : Xn → En → Prop}
theorem n_v (G : Gd X F C T sc W E) {i : Nat} {x : Str} {pos : Pos} (h1 : T.N[i]? = some x) (h2 : visB sc x = true) (h3 : okN x = true) : PE X (.Name x pos) (lE F (wE C (.v i) E)) := by
  obtain ⟨k1, k2⟩ := okN_of h3
  refine PE.imp (pe_var (i := i) (by rw [G.N]; exact h1) (by rw [G.sc]; exact vis_of h2) k1 k2) fun σ H Q h => ?_
  obtain ⟨Hf, ρ, q, w⟩ := h
  unfold wE at w
  cases hs : ρ[i]? with
  | none => rw [hs] at w; exact w.elim
  | some s =>
    simp only [hs] at w
    have := q.slot i s hs
    cases s with
    | no => exact w.elim
    | v d =>
      obtain ⟨v, e, r⟩ := this
      exact ⟨v, e, w v Hf H .refl q r⟩
    | ow ds =>
      obtain ⟨a, vs, e, e1, e2, r, _⟩ := this
      exact ⟨_, e, w _ Hf H .refl q ⟨e, _, hs, by intro z; cases z⟩⟩
    | io ds =>
      obtain ⟨a, vs, e, e1, e2, r, _⟩ := this
      exact ⟨_, e, w _ Hf H .refl q ⟨e, _, hs, by intro z; cases z⟩⟩
theorem n_c {d : Lt} {k : Const} {j : Nat} {pos : Pos} (h : cEq d k = true) : PE X (.Constant k j pos) (lE F (wE C (.c d) E)) := by
  cases d <;> cases k <;> (try (simp [cEq] at h; done))
  · exact PE.imp pe_non fun σ H Q ⟨Hf, ρ, q, w⟩ => by unfold wE at w; exact w _ Hf H .refl q .non
  · simp only [cEq, beq_iff_eq] at h; subst h
    exact PE.imp pe_bl fun σ H Q ⟨Hf, ρ, q, w⟩ => by unfold wE at w; exact w _ Hf H .refl q (.bl _)
  · simp only [cEq, beq_iff_eq] at h; subst h
    exact PE.imp pe_int fun σ H Q ⟨Hf, ρ, q, w⟩ => by unfold wE at w; exact w _ Hf H .refl q (.int _)
  · simp only [cEq, beq_iff_eq] at h; subst h
    exact PE.imp pe_str fun σ H Q ⟨Hf, ρ, q, w⟩ => by unfold wE at w; exact w _ Hf H .refl q (.str _)
theorem n_g (G : Gd X F C T sc W E) {x : Str} {pos : Pos} (h2 : glB sc x = true) (h3 : okN x = true) : PE X (.Name x pos) (lE F (wE C (.g x) E)) := by
  obtain ⟨k1, k2⟩ := okN_of h3
  cases hg : C.gl x with
  | none => exact ⟨fun pins s σ H Q I h => by obtain ⟨Hf, ρ, q, w⟩ := h; unfold wE at w; simp only [hg] at w⟩
  | some d =>
    obtain ⟨v, u, e1, e2, e3⟩ := G.glb x d hg
    refine PE.imp (pe_glob (gl_of G.sc h2) e1 e2 k1) fun σ H Q h => ?_
    obtain ⟨Hf, ρ, q, w⟩ := h
    unfold wE at w
    simp only [hg] at w
    exact w v Hf H .refl q (e3 Hf)
theorem n_bin (G : Gd X F C T sc W E) {op : BOp} {xa xb : Ex} {a b : Expr} {pos : Pos} (ha : PE X a (lE F (wE C xa E))) (hb : PE X b (lE F (wE C xb E))) : PE X (.BinOp a (bop op) b pos) (lE F (wE C (.bin op xa xb) E)) := by
  refine PE.imp (pe_op (op_bin G.K op) ha hb) fun σ H Q h => ?_
  obtain ⟨Hf, ρ, q, w⟩ := h
  unfold wE at w
  exact two (wE_mono G.mono xa E) (wE_mono G.mono xb E) q w fun r1 r2 ρ2 v1 v2 Hf2 H2 k S q2 h1 h2 => ⟨Hf2, _, _, _, q2.sub, h1.top q2, h2.top q2, k, cont_of S q2 fun _ x => x⟩
theorem n_cmp (G : Gd X F C T sc W E) {op : COp} {xa xb : Ex} {a b : Expr} {pos : Pos} (hs : noSet b = true) (ha : PE X a (lE F (wE C xa E))) (hb : PE X b (lE F (wE C xb E))) : PE X (.Compare a [cop op] [b] pos) (lE F (wE C (.cmp op xa xb) E)) := by
  refine PE.imp (pe_cmpR (op_cmp G.K G.units op) ha hb (noMark hs)) fun σ H Q h => ?_
  obtain ⟨Hf, ρ, q, w⟩ := h
  unfold wE at w
  refine two (wE_mono G.mono xa E) (wE_mono G.mono xb E) q w fun r1 r2 ρ2 v1 v2 Hf2 H2 k S q2 h1 h2 => ⟨Hf2, _, _, fun r => ∃ c, r = .v (.bl c) ∧ (∀ v Hf' H', Step σ ρ ρ2 Hf H Hf' H' → Rel F Hf' H' σ ρ2 → RepR F H Hf' H' σ ρ2 v (.v (.bl c)) → Q v H'), q2.sub, h1.top q2, h2.top q2, cmpD_mono (fun c x => ⟨c, rfl, x⟩) k, cont_of S q2 fun r ⟨c, e, x⟩ v Hf' H' S' q' rr => ?_⟩
  subst e
  exact x v Hf' H' S' q' rr
theorem tst_cmp (G : Gd X F C T sc W E) {op : COp} {xa xb : Ex} {a b : Expr} {pos : Pos} (hs : noSet b = true) (ha : PE X a (lE F (wE C xa E))) (hb : PE X b (lE F (wE C xb E))) : PT X (.Compare a [cop op] [b] pos) (lT F (wT C (.cmp op xa xb) E)) := by
  refine PT.imp (pt_cmpR (op_cmp G.K G.units op) ha hb (noMark hs)) fun σ H Q h => ?_
  obtain ⟨Hf, ρ, q, w⟩ := h
  unfold wT at w
  unfold wE at w
  refine two (wE_mono G.mono xa E) (wE_mono G.mono xb E) q w fun r1 r2 ρ2 v1 v2 Hf2 H2 k S q2 h1 h2 => ⟨Hf2, _, _, fun r => ∃ c, r = .v (.bl c) ∧ (∀ Hf' H', Step σ ρ ρ2 Hf H Hf' H' → Rel F Hf' H' σ ρ2 → Q c H'), q2.sub, h1.top q2, h2.top q2, cmpD_mono (fun c x => ⟨c, rfl, x⟩) k, cont_of S q2 fun r ⟨c, e, x⟩ v Hf' H' S' q' rr => ?_⟩
  subst e
  cases rr
  exact ⟨c, rfl, x Hf' H' S' q'⟩
theorem last2 {o1 o2 : CmpOp} {b c : Expr} (h : noSet c = true) : lastMarks [o1, o2] [b, c] = false := by
  show behindInMarks o2 c = false
  exact noMark h
/-- the reading of a chain, with what becomes of its bool -/
theorem chain_ok (G : Gd X F C T sc W E) {op op' : COp} {xa xb xc : Ex} {σ : St} {H Hf : Hp} {ρ : En} {K : Bool → En → Prop} {Q : VK} (q : Rel F Hf H σ ρ)
    (w : wE C xa E ρ fun r1 ρ1 => wE C xb E ρ1 fun r2 ρ2 => cmpD op (get ρ2 r1) (get ρ2 r2) fun k => if k = true then wE C xc E ρ2 fun r3 ρ3 => cmpD op' (get ρ3 r2) (get ρ3 r3) fun k' => K k' ρ3 else K false ρ2)
    (f : ∀ c ρ' Hf' H', K c ρ' → Step σ ρ ρ' Hf H Hf' H' → Rel F Hf' H' σ ρ' → Q (.bl c) H') :
    tChain (fun x y H Q => ∃ Hf dx dy Qd, Le Hf H ∧ RepT F Hf H x dx ∧ RepT F Hf H y dy ∧ cmpR op dx dy Qd ∧ Cont F Hf H Qd Q) (fun x y H Q => ∃ Hf dx dy Qd, Le Hf H ∧ RepT F Hf H x dx ∧ RepT F Hf H y dy ∧ cmpR op' dx dy Qd ∧ Cont F Hf H Qd Q) (lE F (wE C xa E)) (lE F (wE C xb E)) (lE F (wE C xc E)) σ H Q := by
  refine two (wE_mono G.mono xa E) (wE_mono G.mono xb E) q w fun r1 r2 ρ2 v1 v2 Hf2 H2 k S q2 h1 h2 => ⟨Hf2, _, _, fun r => ∃ c, r = .v (.bl c) ∧ (if c = true then wE C xc E ρ2 fun r3 ρ3 => cmpD op' (get ρ3 r2) (get ρ3 r3) fun k' => K k' ρ3 else K false ρ2), q2.sub, h1.top q2, h2.top q2, cmpD_mono (fun c x => ⟨c, rfl, x⟩) k, ⟨fun d v hd rr => ?_, fun ds vs p hd _ _ => ?_, fun ds vs p hd _ _ => ?_⟩⟩
  · obtain ⟨c, e, x⟩ := hd
    cases e
    cases rr
    refine ⟨c, rfl, ?_⟩
    cases c with
    | false => exact f _ _ _ _ x S q2
    | true =>
      refine ⟨Hf2, ρ2, q2, wE_mono G.mono xc E _ _ _ (fun r3 ρ3 k3 v3 Hf3 H3 S3 q3 h3 => ?_) x⟩
      refine ⟨Hf3, _, _, fun r => ∃ c, r = .v (.bl c) ∧ K c ρ3, q3.sub, (h2.step q S S3).top q3, h3.top q3, cmpD_mono (fun c x => ⟨c, rfl, x⟩) k3, ⟨fun d v hd rr => ?_, fun ds vs p hd _ _ => ?_, fun ds vs p hd _ _ => ?_⟩⟩
      · obtain ⟨c, e, x⟩ := hd
        cases e
        cases rr
        exact f _ _ _ _ x (S.trans S3) q3
      · obtain ⟨c, e, x⟩ := hd; cases e
      · obtain ⟨c, e, x⟩ := hd; cases e
  · obtain ⟨c, e, x⟩ := hd; cases e
  · obtain ⟨c, e, x⟩ := hd; cases e
theorem n_cmp2 (G : Gd X F C T sc W E) {op op' : COp} {xa xb xc : Ex} {a b c : Expr} {pos : Pos} (hs' : noSet c = true) (ha : PE X a (lE F (wE C xa E))) (hb : PE X b (lE F (wE C xb E))) (hc : PE X c (lE F (wE C xc E))) : PE X (.Compare a [cop op, cop op'] [b, c] pos) (lE F (wE C (.cmp2 op op' xa xb xc) E)) := by
  refine PE.imp (pe_chain (op_cmp G.K G.units op) (op_cmp G.K G.units op') ha hb hc (last2 hs')) fun σ H Q h => ?_
  obtain ⟨Hf, ρ, q, w⟩ := h
  unfold wE at w
  exact chain_ok G q w fun c ρ' Hf' H' k S q' => k _ _ _ S q' (.bl c)
theorem tst_cmp2 (G : Gd X F C T sc W E) {op op' : COp} {xa xb xc : Ex} {a b c : Expr} {pos : Pos} (hs' : noSet c = true) (ha : PE X a (lE F (wE C xa E))) (hb : PE X b (lE F (wE C xb E))) (hc : PE X c (lE F (wE C xc E))) : PT X (.Compare a [cop op, cop op'] [b, c] pos) (lT F (wT C (.cmp2 op op' xa xb xc) E)) := by
  refine PT.imp (pt_chain (op_cmp G.K G.units op) (op_cmp G.K G.units op') ha hb hc (last2 hs')) fun σ H Q h => ?_
  obtain ⟨Hf, ρ, q, w⟩ := h
  unfold wT at w
  unfold wE at w
  refine chain_ok G q w fun c ρ' Hf' H' k S q' => ⟨c, rfl, k _ _ S q'⟩
theorem n_neg (G : Gd X F C T sc W E) {xa : Ex} {a : Expr} {pos : Pos} (ha : PE X a (lE F (wE C xa E))) : PE X (.UnaryOp .USub a pos) (lE F (wE C (.neg xa) E)) := by
  refine PE.imp (pe_un un_neg ha) fun σ H Q h => ?_
  obtain ⟨Hf, ρ, q, w⟩ := h
  unfold wE at w
  refine ⟨Hf, ρ, q, wE_mono G.mono xa E _ _ _ (fun r ρ1 k v Hf1 H1 S q1 rr => ?_) w⟩
  have t := (rr.top q1)
  cases hg : get ρ1 r with
  | int i =>
    rw [hg] at t k
    cases t
    exact ⟨i, rfl, k _ _ _ S q1 (.int _)⟩
  | _ => rw [hg] at k; exact k.elim
end
end RK
namespace RK
open PySem L2
section
variable {X : Cx} {F : Fc} {C : Ct} {T : Tab} {sc : Scope} {W : WX} {E : Xn → En → Prop}
theorem n_and (G : Gd X F C T sc W E) {xa xb : Ex} {a b : Expr} {rest : List Expr} {pos : Pos} (ha : PE X a (lE F (wE C xa E))) (hb : PE X (.BoolOp .And (b :: rest) pos) (lE F (wE C xb E))) : PE X (.BoolOp .And (a :: b :: rest) pos) (lE F (wE C (.and_ xa xb) E)) := by
  refine PE.imp (pe_andT ha hb) fun σ H Q h => ?_
  obtain ⟨Hf, ρ, q, w⟩ := h
  unfold wE at w
  refine ⟨Hf, ρ, q, wE_mono G.mono xa E _ _ _ (fun r ρ1 k v Hf1 H1 S q1 rr => ?_) w⟩
  cases ht : truD (get ρ1 r) with
  | none => rw [ht] at k; exact k.elim
  | some c =>
    rw [ht] at k
    refine ⟨c, truV_of G.K q1.sub (rr.top q1) ht, ?_⟩
    cases c with
    | true => exact ⟨Hf1, ρ1, q1, wE_mono G.mono xb E _ _ _ (fun r2 ρ2 k2 v2 Hf2 H2 S2 q2 rr2 => k2 _ _ _ (S.trans S2) q2 (rr2.from S.dom)) k⟩
    | false => exact k _ _ _ S q1 rr
theorem n_or (G : Gd X F C T sc W E) {xa xb : Ex} {a b : Expr} {rest : List Expr} {pos : Pos} (ha : PE X a (lE F (wE C xa E))) (hb : PE X (.BoolOp .Or (b :: rest) pos) (lE F (wE C xb E))) : PE X (.BoolOp .Or (a :: b :: rest) pos) (lE F (wE C (.or_ xa xb) E)) := by
  refine PE.imp (pe_orT ha hb) fun σ H Q h => ?_
  obtain ⟨Hf, ρ, q, w⟩ := h
  unfold wE at w
  refine ⟨Hf, ρ, q, wE_mono G.mono xa E _ _ _ (fun r ρ1 k v Hf1 H1 S q1 rr => ?_) w⟩
  cases ht : truD (get ρ1 r) with
  | none => rw [ht] at k; exact k.elim
  | some c =>
    rw [ht] at k
    refine ⟨c, truV_of G.K q1.sub (rr.top q1) ht, ?_⟩
    cases c with
    | false => exact ⟨Hf1, ρ1, q1, wE_mono G.mono xb E _ _ _ (fun r2 ρ2 k2 v2 Hf2 H2 S2 q2 rr2 => k2 _ _ _ (S.trans S2) q2 (rr2.from S.dom)) k⟩
    | true => exact k _ _ _ S q1 rr
theorem n_not (G : Gd X F C T sc W E) {xa : Ex} {a : Expr} {pos : Pos} (ha : PE X a (lE F (wE C xa E))) : PE X (.UnaryOp .Not a pos) (lE F (wE C (.not_ xa) E)) := by
  refine PE.imp (pe_notT ha) fun σ H Q h => ?_
  obtain ⟨Hf, ρ, q, w⟩ := h
  unfold wE at w
  refine ⟨Hf, ρ, q, wE_mono G.mono xa E _ _ _ (fun r ρ1 k v Hf1 H1 S q1 rr => ?_) w⟩
  cases ht : truD (get ρ1 r) with
  | none => rw [ht] at k; exact k.elim
  | some c =>
    rw [ht] at k
    exact ⟨c, truV_of G.K q1.sub (rr.top q1) ht, k _ _ _ S q1 (.bl _)⟩
theorem n_ite (G : Gd X F C T sc W E) {xc xa xb : Ex} {c a b : Expr} {pos : Pos} (hc : PT X c (lT F (wT C xc E))) (ha : PE X a (lE F (wE C xa E))) (hb : PE X b (lE F (wE C xb E))) : PE X (.IfExp c a b pos) (lE F (wE C (.ite xc xa xb) E)) := by
  refine PE.imp (pe_ifExp hc ha hb) fun σ H Q h => ?_
  obtain ⟨Hf, ρ, q, w⟩ := h
  unfold wE at w
  refine ⟨Hf, ρ, q, wT_mono G.mono xc E _ _ _ (fun c ρ1 k Hf1 H1 S q1 => ?_) w⟩
  cases c with
  | true => exact ⟨Hf1, ρ1, q1, wE_mono G.mono xa E _ _ _ (fun r2 ρ2 k2 v2 Hf2 H2 S2 q2 rr2 => k2 _ _ _ (S.trans S2) q2 (rr2.from S.dom)) k⟩
  | false => exact ⟨Hf1, ρ1, q1, wE_mono G.mono xb E _ _ _ (fun r2 ρ2 k2 v2 Hf2 H2 S2 q2 rr2 => k2 _ _ _ (S.trans S2) q2 (rr2.from S.dom)) k⟩
/-! tests -/
theorem tst_and (G : Gd X F C T sc W E) {xa xb : Ex} {a b : Expr} {rest : List Expr} {pos : Pos} (ha : PT X a (lT F (wT C xa E))) (hb : PW X (.BoolOp .And (b :: rest) pos) (lT F (wT C xb E))) : PW X (.BoolOp .And (a :: b :: rest) pos) (lT F (wT C (.and_ xa xb) E)) := by
  refine PW.imp (pw_and ha hb) fun σ H Q h => ?_
  obtain ⟨Hf, ρ, q, w⟩ := h
  unfold wT at w
  refine ⟨Hf, ρ, q, wT_mono G.mono xa E _ _ _ (fun c ρ1 k Hf1 H1 S q1 => ?_) w⟩
  cases c with
  | true => exact ⟨Hf1, ρ1, q1, wT_mono G.mono xb E _ _ _ (fun r2 ρ2 k2 Hf2 H2 S2 q2 => k2 _ _ (S.trans S2) q2) k⟩
  | false => exact k _ _ S q1
theorem tst_or (G : Gd X F C T sc W E) {xa xb : Ex} {a b : Expr} {rest : List Expr} {pos : Pos} (ha : PT X a (lT F (wT C xa E))) (hb : PW X (.BoolOp .Or (b :: rest) pos) (lT F (wT C xb E))) : PW X (.BoolOp .Or (a :: b :: rest) pos) (lT F (wT C (.or_ xa xb) E)) := by
  refine PW.imp (pw_or ha hb) fun σ H Q h => ?_
  obtain ⟨Hf, ρ, q, w⟩ := h
  unfold wT at w
  refine ⟨Hf, ρ, q, wT_mono G.mono xa E _ _ _ (fun c ρ1 k Hf1 H1 S q1 => ?_) w⟩
  cases c with
  | true => exact k _ _ S q1
  | false => exact ⟨Hf1, ρ1, q1, wT_mono G.mono xb E _ _ _ (fun r2 ρ2 k2 Hf2 H2 S2 q2 => k2 _ _ (S.trans S2) q2) k⟩
theorem tst_not (G : Gd X F C T sc W E) {xa : Ex} {a : Expr} {pos : Pos} (ha : PT X a (lT F (wT C xa E))) : PT X (.UnaryOp .Not a pos) (lT F (wT C (.not_ xa) E)) := by
  refine PT.imp (pt_not ha) fun σ H Q h => ?_
  obtain ⟨Hf, ρ, q, w⟩ := h
  unfold wT at w
  exact ⟨Hf, ρ, q, wT_mono G.mono xa E _ _ _ (fun c ρ1 k Hf1 H1 S q1 => k _ _ S q1) w⟩
/-- a value's truth -/
theorem tst_val (G : Gd X F C T sc W E) {xa : Ex} {a : Expr} (ha : PE X a (lE F (wE C xa E))) (hp : ∀ whole, isTrue a X.env whole = (do let v ← whole; standAt a.pos; holding [v] (truthy v)))
    (hw : ∀ ρ Q, wT C xa E ρ Q → wE C xa E ρ fun r ρ1 => (match truD (get ρ1 r) with | some k => Q k ρ1 | none => False)) : PT X a (lT F (wT C xa E)) := by
  refine PT.imp (pt_truth ha hp) fun σ H Q h => ?_
  obtain ⟨Hf, ρ, q, w⟩ := h
  refine ⟨Hf, ρ, q, wE_mono G.mono xa E _ _ _ (fun r ρ1 k v Hf1 H1 S q1 rr => ?_) (hw _ _ w)⟩
  cases ht : truD (get ρ1 r) with
  | none => rw [ht] at k; exact k.elim
  | some c =>
    rw [ht] at k
    exact ⟨c, truV_of G.K q1.sub (rr.top q1) ht, k _ _ S q1⟩
/-! arguments -/
theorem n_nil : PA X [] (lR F (wRs C [] E)) := by
  refine PA.imp pa_nil fun σ H Q h => ?_
  obtain ⟨Hf, ρ, q, w⟩ := h
  unfold wRs at w
  exact w _ _ _ .refl q .nil
theorem n_cons (G : Gd X F C T sc W E) {x : Ex} {xs : List Ex} {e : Expr} {es : List Expr} (hn : noStar e = true) (he : PE X e (lE F (wE C x E))) (hes : PA X es (lR F (wRs C xs E))) : PA X (e :: es) (lR F (wRs C (x :: xs) E)) := by
  refine PA.imp (pa_cons he hes (starEach_ns hn)) fun σ H Q h => ?_
  obtain ⟨Hf, ρ, q, w⟩ := h
  unfold wRs at w
  refine ⟨Hf, ρ, q, wE_mono G.mono x E _ _ _ (fun r ρ1 k v Hf1 H1 S q1 rr => ⟨Hf1, ρ1, q1, wRs_mono G.mono xs E _ _ _ (fun rs ρ2 k2 vs Hf2 H2 S2 q2 rrs => ?_) k⟩) w⟩
  refine k2 _ _ _ (S.trans S2) q2 (.cons (rr.step q S S2) (rrs.map fun _ _ _ _ _ z => z.from S.dom) fun j w r' f1 e1 e2 f2 z => ?_)
  -- two new ones: the later one was not there when the first one stood
  cases r with
  | v d => cases f1
  | b i => cases f1
  | f ds =>
    obtain ⟨a, ws, ev, h1, h2, _, h4⟩ := rr
    have hj : RepR F H1 Hf2 H2 σ ρ2 w r' := by
      clear k2 f1 S2 q2 k
      induction rrs generalizing j with
      | nil => simp at e1
      | cons hh tt dd ih =>
        cases j with
        | zero => simp at e1 e2; subst e1; subst e2; exact hh
        | succ j => exact ih j (by simpa using e1) (by simpa using e2)
    cases r' with
    | v d => cases f2
    | b i => cases f2
    | f es' =>
      obtain ⟨b, ws', ev', _, _, _, h4'⟩ := hj
      rw [ev, ev'] at z
      cases z
      rw [h1] at h4'; cases h4'
theorem n_tup (G : Gd X F C T sc W E) {xs : List Ex} {es : List Expr} {j : Nat} {pos : Pos} (hes : PA X es (lR F (wRs C xs E))) : PE X (.Tuple es j pos) (lE F (wE C (.tup xs) E)) := by
  refine PE.imp (pe_tup hes) fun σ H Q h => ?_
  obtain ⟨Hf, ρ, q, w⟩ := h
  unfold wE at w
  refine ⟨Hf, ρ, q, wRs_mono G.mono xs E _ _ _ (fun rs ρ1 k vs Hf1 H1 S q1 rr => ?_) w⟩
  obtain ⟨ds, ρ2, Hf2, ⟨hl, k2⟩, q2, r2, S2, _, _⟩ := keepRs_ok q S q1 rr k
  refine ⟨by rw [r2.length]; exact hl, fun p hp => ?_⟩
  exact k2 _ _ _ (S2.laid q2 hp) (q2.laid hp) (.tup (.inl (.inl upd_same)) (Reps.le (le_upd (q2.none_f hp)) r2))
theorem n_lst (G : Gd X F C T sc W E) {xs : List Ex} {es : List Expr} {pos : Pos} (hes : PA X es (lR F (wRs C xs E))) : PE X (.List es pos) (lE F (wE C (.lst xs) E)) := by
  refine PE.imp (pe_lst hes) fun σ H Q h => ?_
  obtain ⟨Hf, ρ, q, w⟩ := h
  unfold wE at w
  refine ⟨Hf, ρ, q, wRs_mono G.mono xs E _ _ _ (fun rs ρ1 k vs Hf1 H1 S q1 rr => ?_) w⟩
  obtain ⟨ds, ρ2, Hf2, ⟨hl, k2⟩, q2, r2, S2, _, _⟩ := keepRs_ok q S q1 rr k
  refine ⟨by rw [r2.length]; exact hl, fun p hp => ?_⟩
  exact k2 _ _ _ (S2.newO hp) (q2.newO hp) ⟨p, vs, rfl, upd_same, q2.none_f hp, r2, S2.dom p hp⟩
theorem n_idx (G : Gd X F C T sc W E) {xa xb : Ex} {a b : Expr} {pos : Pos} (hs : noSlice b = true) (ha : PE X a (lE F (wE C xa E))) (hb : PE X b (lE F (wE C xb E))) : PE X (.Subscript a b pos) (lE F (wE C (.idx xa xb) E)) := by
  refine PE.imp (pe_ix (ix_ok G.K) ha hb (plainIx_of hs)) fun σ H Q h => ?_
  obtain ⟨Hf, ρ, q, w⟩ := h
  unfold wE at w
  refine two (wE_mono G.mono xa E) (wE_mono G.mono xb E) q w fun r1 r2 ρ2 v1 v2 Hf2 H2 k S q2 h1 h2 => ⟨Hf2, _, _, fun r => ∃ d, r = .v d ∧ (∀ v Hf' H', Step σ ρ ρ2 Hf H Hf' H' → Rel F Hf' H' σ ρ2 → RepR F H Hf' H' σ ρ2 v (.v d) → Q v H'), q2.sub, h1.top q2, h2.top q2, idxD_mono (fun c x => ⟨c, rfl, x⟩) k, cont_of S q2 fun r ⟨c, e, x⟩ v Hf' H' S' q' rr => ?_⟩
  subst e
  exact x v Hf' H' S' q' rr
/-! slices -/
theorem sl_seq : SlR X (fun x lo hi H Q => rSlL X.K x lo hi H Q ∨ rSlA X.K x lo hi H Q) := by
  intro pins s σ H x v vl vu lo hi sl Q I rx hs pl pu h
  rcases h with h | h
  · exact sl_list pins s σ H x v vl vu lo hi sl Q I rx hs pl pu h
  · exact sl_tupA pins s σ H x v vl vu lo hi sl Q I rx hs pl pu h
def tO (F : Fc) (C : Ct) (E : Xn → En → Prop) : List Ex → TO
  | [] => tNoPart
  | [x] => tPart (lE F (wE C x E))
  | _ => fun _ _ _ => False
theorem tO_ok (G : Gd X F C T sc W E) {lo : List Ex} (hl : lo = [] ∨ ∃ x, lo = [x]) {Hf H : Hp} {σ : St} {ρ : En} (q : Rel F Hf H σ ρ) {K : Option Int → En → Prop} {P : Option Int → Hp → Prop} (w : wRs C lo E ρ fun l ρ2 => optK (optI (l.map (get ρ2))) fun o => K o ρ2)
    (f : ∀ o ρ2 Hf2 H2, K o ρ2 → Step σ ρ ρ2 Hf H Hf2 H2 → Rel F Hf2 H2 σ ρ2 → P o H2) : tO F C E lo σ H P := by
  rcases hl with rfl | ⟨x, rfl⟩
  · unfold wRs at w
    exact f _ _ _ _ w Step.refl q
  · unfold wRs at w
    refine ⟨Hf, ρ, q, wE_mono G.mono x E _ _ _ (fun r ρ1 k v Hf1 H1 S q1 rr => ?_) w⟩
    unfold wRs at k
    have e : optK (optI [get ρ1 r]) fun o => K o ρ1 := k
    have top := rr.top q1
    cases hd : get ρ1 r with
    | int i =>
      rw [hd] at e top
      obtain rfl := (show v = .int i by cases top; rfl)
      exact ⟨i, rfl, f _ _ _ _ e S q1⟩
    | _ => rw [hd] at e; exact e.elim
theorem cut_reps {Hf : Hp} {vs : List V} {ds : List D} (r : Reps F.K F.fa Hf vs ds) (lo hi : Option Int) : Reps F.K F.fa Hf (cutV vs lo hi) (cutD ds lo hi) := by
  unfold cutV cutD
  rw [r.length]
  exact (r.drop _).take _
theorem n_slc (G : Gd X F C T sc W E) {xa : Ex} {lo hi : List Ex} {a : Expr} {l u : Option Expr} {p2 pos : Pos} (l1 : lo = [] ∨ ∃ x, lo = [x]) (l2 : hi = [] ∨ ∃ x, hi = [x]) (ha : PE X a (lE F (wE C xa E))) (hl : PO X l (tO F C E lo)) (hu : PO X u (tO F C E hi)) : PE X (.Subscript a (.Slice l u none p2) pos) (lE F (wE C (.slc xa lo hi) E)) := by
  refine PE.imp (pe_slice sl_seq ha hl hu) fun σ H Q h => ?_
  obtain ⟨Hf, ρ, q, w⟩ := h
  unfold wE at w
  refine ⟨Hf, ρ, q, wE_mono G.mono xa E _ _ _ (fun r ρ1 k v Hf1 H1 S q1 rr => ?_) w⟩
  refine tO_ok G l1 q1 k fun o1 ρ2 Hf2 H2 k2 S2 q2 => ?_
  refine tO_ok G l2 q2 k2 fun o2 ρ3 Hf3 H3 k3 S3 q3 => ?_
  have S' := S.trans (S2.trans S3)
  have rr3 := (rr.step q S (S2.trans S3)).top q3
  cases hd : get ρ3 r with
  | lst xs =>
    rw [hd] at k3 rr3
    obtain ⟨p, vs, rfl, e, rs⟩ := rr3
    refine .inl ⟨p, vs, rfl, .inl (.inl e), fun b hb => ?_⟩
    exact k3 _ _ _ (S'.newO hb) (q3.newO hb) ⟨b, _, rfl, upd_same, q3.none_f hb, cut_reps rs o1 o2, S'.dom b hb⟩
  | tup xs =>
    rw [hd] at k3 rr3
    cases (show Rep F.K F.fa Hf3 v (.tup xs) from rr3) with
    | @tup p vs _ e rs =>
      refine .inr ⟨_, _, rfl, by rw [G.K]; exact q3.sub.sqT e, fun hw => ?_, fun _ b hb => ?_⟩
      · have ec : cutD xs o1 o2 = xs := by
          unfold cutD
          rw [rs.length] at hw
          rw [hw.1, hw.2]; simp
        refine k3 _ _ _ S' q3 ?_
        show Rep F.K F.fa Hf3 _ (.tup (cutD xs o1 o2))
        rw [ec]; exact .tup e rs
      · exact k3 _ _ _ (S'.laid q3 hb) (q3.laid hb) (.tup (.inl (.inl upd_same)) (Reps.le (le_upd (q3.none_f hb)) (cut_reps rs o1 o2)))
  | _ => rw [hd] at k3; exact k3.elim
theorem n_rev (G : Gd X F C T sc W E) {xa : Ex} {a : Expr} {k : Nat} {p1 p2 p3 pos : Pos} (ha : PE X a (lE F (wE C xa E))) : PE X (.Subscript a (.Slice none none (some (.UnaryOp .USub (.Constant (.int 1) k p1) p2)) p3) pos) (lE F (wE C (.rev xa) E)) := by
  refine PE.imp (pe_revL ha) fun σ H Q h => ?_
  obtain ⟨Hf, ρ, q, w⟩ := h
  unfold wE at w
  refine ⟨Hf, ρ, q, wE_mono G.mono xa E _ _ _ (fun r ρ1 k v Hf1 H1 S q1 rr => ?_) w⟩
  have top := rr.top q1
  cases hd : get ρ1 r with
  | lst xs =>
    rw [hd] at k top
    obtain ⟨p, vs, rfl, e, rs⟩ := top
    exact ⟨p, vs, rfl, .inl (.inl e), fun b hb => k _ _ _ (S.newO hb) (q1.newO hb) ⟨b, _, rfl, upd_same, q1.none_f hb, rs.reverse, S.dom b hb⟩⟩
  | _ => rw [hd] at k; exact k.elim
theorem reps_rg {K : PySem.W.Frag} {fa : Nat → Addr} {Hf : Hp} {i j : Int} : Reps K fa Hf (rgV i j) ((List.range (j - i).toNat).map fun (k : Nat) => D.int (i + (k : Int))) := by
  unfold rgV
  induction List.range (j - i).toNat with
  | nil => exact .nil
  | cons a l ih => exact .cons (.int _) ih
theorem n_rgv (G : Gd X F C T sc W E) {t : Bool} {es : List Ex} {xs : List Expr} {p p2 pos pos2 : Pos} (hg : glB sc (if t = true then ("tuple" : Str) else "list") = true) (hg2 : glB sc "range" = true)
    (hes : (∃ x e, es = [x] ∧ xs = [e] ∧ noStar e = true ∧ PE X e (lE F (wE C x E))) ∨ (∃ x y e f, es = [x, y] ∧ xs = [e, f] ∧ noStar e = true ∧ noStar f = true ∧ PE X e (lE F (wE C x E)) ∧ PE X f (lE F (wE C y E)))) :
    PE X (.Call (.Name (if t = true then ("tuple" : Str) else "list") p) [.Call (.Name "range" p2) xs [] pos2] [] pos) (lE F (wE C (.rgv t es) E)) := by
  have hmr : X.mg "range" = none := G.blt _ (by decide)
  have key : ∀ {te : St → Hp → (Int → Int → Hp → Prop) → Prop}, PRg X (.Call (.Name "range" p2) xs [] pos2) te → (∀ σ H (Q : VK), lE F (wE C (.rgv t es) E) σ H Q → te σ H fun i j H1 => ∃ ds, RgOk i j ∧ ds = ((List.range (j - i).toNat).map fun (k : Nat) => D.int (i + (k : Int))) ∧ ∀ b, H1 b = none → Q (.ref b) (upd H1 b (if t = true then .tup (rgV i j) else .lst (rgV i j)))) →
      (∀ σ H (P P' : Int → Int → Hp → Prop), (∀ i j H1, P i j H1 → P' i j H1) → te σ H P → te σ H P') →
      PE X (.Call (.Name (if t = true then ("tuple" : Str) else "list") p) [.Call (.Name "range" p2) xs [] pos2] [] pos) (lE F (wE C (.rgv t es) E)) := by
    intro te hr hi hm
    cases t with
    | true =>
      refine PE.imp (pe_tupRg G.calm (gl_of G.sc hg) (G.blt _ (by decide)) hr (starEach_ns rfl)) fun σ H Q h => ?_
      exact hm _ _ _ _ (fun i j H1 ⟨ds, ok, _, q⟩ => ⟨ok, q⟩) (hi σ H Q h)
    | false =>
      refine PE.imp (pe_listRg G.calm (gl_of G.sc hg) (G.blt _ (by decide)) hr (starEach_ns rfl)) fun σ H Q h => ?_
      exact hm _ _ _ _ (fun i j H1 ⟨ds, ok, _, q⟩ => ⟨ok, q⟩) (hi σ H Q h)
  rcases hes with ⟨x, e, rfl, rfl, n1, h1⟩ | ⟨x, y, e, f, rfl, rfl, n1, n2, h1, h2⟩
  · refine key (prg_1 (gl_of G.sc hg2) hmr h1 (starEach_ns n1)) (fun σ H Q h => ?_) (fun σ H P P' i h => ?_)
    · obtain ⟨Hf, ρ, q, w⟩ := h
      unfold wE at w
      unfold wRs at w
      refine ⟨Hf, ρ, q, wE_mono G.mono x E _ _ _ (fun r ρ1 k v Hf1 H1 S q1 rr => ?_) w⟩
      unfold wRs at k
      have k : rgvD t [get ρ1 r] _ := k
      have top := rr.top q1
      cases hd : get ρ1 r with
      | int j =>
        rw [hd] at k top
        obtain rfl := (show v = .int j by cases top; rfl)
        have rs := reps_rg (K := F.K) (fa := F.fa) (Hf := Hf1) (i := 0) (j := j)
        simp only [Int.zero_add, Int.sub_zero] at rs
        refine ⟨j, rfl, _, k.1, rfl, fun b hb => ?_⟩
        have k := k.2
        cases t with
        | true => exact k _ _ _ (S.laid q1 hb) (q1.laid hb) (.tup (.inl (.inl upd_same)) (Reps.le (le_upd (q1.none_f hb)) rs))
        | false => exact k _ _ _ (S.newO hb) (q1.newO hb) ⟨b, _, rfl, upd_same, q1.none_f hb, rs, S.dom b hb⟩
      | _ => rw [hd] at k; exact k.elim
    · obtain ⟨Hf, ρ, q, w⟩ := h
      exact ⟨Hf, ρ, q, wE_mono G.mono x E _ _ _ (fun r ρ1 k v Hf1 H1 S q1 rr => by
        obtain ⟨n, e, z⟩ := k v Hf1 H1 S q1 rr
        exact ⟨n, e, i _ _ _ z⟩) w⟩
  · refine key (prg_2 (gl_of G.sc hg2) hmr h1 h2 (starEach_ns n1) (starEach_ns n2) (by rw [starEach_ns n2]; rfl)) (fun σ H Q h => ?_) (fun σ H P P' i h => ?_)
    · obtain ⟨Hf, ρ, q, w⟩ := h
      unfold wE at w
      unfold wRs at w
      refine two (wE_mono G.mono x E) (wE_mono G.mono y E) (K := fun r1 r2 ρ2 => rgvD t [get ρ2 r1, get ρ2 r2] fun x => ∀ v Hf' H', Step σ ρ ρ2 Hf H Hf' H' → Rel F Hf' H' σ ρ2 → RepR F H Hf' H' σ ρ2 v x → Q v H') q (wE_mono G.mono x E _ _ _ (fun r1 ρ1 k => ?_) w) fun r1 r2 ρ2 v1 v2 Hf2 H2 k S q2 rr1 rr2 => ?_
      · unfold wRs at k
        refine wE_mono G.mono y E _ _ _ (fun r2 ρ2 k => ?_) k
        unfold wRs at k
        exact k
      have t1 := rr1.top q2
      have t2 := rr2.top q2
      cases hd : get ρ2 r1 with
      | int a =>
        cases hd2 : get ρ2 r2 with
        | int b =>
          rw [hd, hd2] at k
          rw [hd] at t1
          rw [hd2] at t2
          obtain rfl := (show v1 = .int a by cases t1; rfl)
          obtain rfl := (show v2 = .int b by cases t2; rfl)
          have rs := reps_rg (K := F.K) (fa := F.fa) (Hf := Hf2) (i := a) (j := b)
          refine ⟨a, b, rfl, rfl, _, k.1, rfl, fun c hb => ?_⟩
          have k := k.2
          cases t with
          | true => exact k _ _ _ (S.laid q2 hb) (q2.laid hb) (.tup (.inl (.inl upd_same)) (Reps.le (le_upd (q2.none_f hb)) rs))
          | false => exact k _ _ _ (S.newO hb) (q2.newO hb) ⟨c, _, rfl, upd_same, q2.none_f hb, rs, S.dom c hb⟩
        | _ => rw [hd, hd2] at k; exact k.elim
      | _ => rw [hd] at k; exact k.elim
    · obtain ⟨Hf, ρ, q, w⟩ := h
      refine ⟨Hf, ρ, q, wE_mono G.mono x E _ _ _ (fun r ρ1 k v Hf1 H1 S q1 rr => ?_) w⟩
      obtain ⟨Hf', ρ', q', w'⟩ := k v Hf1 H1 S q1 rr
      exact ⟨Hf', ρ', q', wE_mono G.mono y E _ _ _ (fun r ρ1 k v Hf1 H1 S q1 rr => by
        obtain ⟨a, b, e, e', z⟩ := k v Hf1 H1 S q1 rr
        exact ⟨a, b, e, e', i _ _ _ z⟩) w'⟩
theorem boot_bi (b : Bi) : bootBuiltins (biN b) = some (biV b) := by cases b <;> decide +kernel
theorem n_bi (G : Gd X F C T sc W E) {b : Bi} {xs : List Ex} {e : Expr} {es : List Expr} {p pos : Pos} (hg : glB sc (biN b) = true) (hm : mEs T xs sc (e :: es) = true) (hes : PA X (e :: es) (lR F (wRs C xs E))) : PE X (.Call (.Name (biN b) p) (e :: es) [] pos) (lE F (wE C (.bi b xs) E)) := by
  have hb : biN b ∈ bltNames := by cases b <;> decide
  have hst : starEach (e :: es) X.env = (false, eval e X.env) :: starEach es X.env := by
    cases xs with
    | nil => simp [mEs] at hm
    | cons x xs => simp only [mEs, Bool.and_eq_true] at hm; exact starEach_ns hm.1.2
  have hpl : (backTo pos (starEach es X.env)).any (·.1) = false := by
    cases xs with
    | nil => simp [mEs] at hm
    | cons x xs => simp only [mEs, Bool.and_eq_true] at hm; exact behind_any hm.2
  have hr : PE X (.Call (.Name (biN b) p) (e :: es) [] pos) (tCB (fun xs H Q => ∃ Hf ds Qd, Le Hf H ∧ RepTs F Hf H xs ds ∧ biD b ds Qd ∧ Cont F Hf H Qd Q) (lR F (wRs C xs E))) := by
    have hca := ca_bi (F := F) G.K G.calm b
    cases b <;> first
      | exact pe_callB hca (gl_of G.sc hg) (G.blt _ hb) (boot_bi _) hes (by decide) (by decide) hst hpl
      | exact pe_callTy hca (gl_of G.sc hg) (G.blt _ hb) (boot_bi _) hes (by decide) (by decide) hst hpl
  refine PE.imp hr fun σ H Q h => ?_
  obtain ⟨Hf, ρ, q, w⟩ := h
  unfold wE at w
  exact ⟨Hf, ρ, q, wRs_mono G.mono xs E _ _ _ (fun rs ρ1 k vs Hf1 H1 S q1 rr => ⟨Hf1, _, _, q1.sub, rr.tops q1, k, cont_of S q1 fun _ x => x⟩) w⟩
end
end RK
namespace RK
open PySem L2
section
variable {X : Cx} {F : Fc} {C : Ct} {T : Tab} {sc : Scope} {W : WX} {E : Xn → En → Prop}
theorem boot_ty {t : String} (h : (t == "int" || t == "bool" || t == "tuple" || t == "list" || t == "str") = true) : bootBuiltins (strS t) = some (.type t) ∧ strS t ≠ "__name__" ∧ (strS t == ("__debug__" : Str)) = false := by
  simp only [Bool.or_eq_true, beq_iff_eq] at h
  rcases h with (((h | h) | h) | h) | h <;> subst h <;> exact ⟨by decide +kernel, by decide, by decide⟩
theorem n_isi (G : Gd X F C T sc W E) {xa : Ex} {t : String} {a : Expr} {p p2 pos : Pos} (hi : glB sc "isinstance" = true) (hg : glB sc (strS t) = true) (hb : bltNames.contains (strS t) = true) (ht : (t == "int" || t == "bool" || t == "tuple" || t == "list" || t == "str") = true) (hn : noStar a = true) (ha : PE X a (lE F (wE C xa E))) :
    PE X (.Call (.Name "isinstance" p) [a, .Name (strS t) p2] [] pos) (lE F (wE C (.isi xa t) E)) := by
  obtain ⟨b1, b2, b3⟩ := boot_ty ht
  have hm2 : X.mg (strS t) = none := G.blt _ (by simpa using hb)
  have hty : PE X (.Name (strS t) p2) (tC (.ty t)) := pe_bltn (gl_of G.sc hg) hm2 b1 rfl b2 b3
  have hpa : PA X [a, .Name (strS t) p2] (tCons (lE F (wE C xa E)) (tCons (tC (.ty t)) tNil)) := pa_cons ha (pa_cons hty pa_nil rfl) (starEach_ns hn)
  refine PE.imp (pe_callB call_isi (gl_of G.sc hi) (G.blt _ (by decide)) (by decide +kernel) hpa (by decide) (by decide) (starEach_ns hn) rfl) fun σ H Q h => ?_
  obtain ⟨Hf, ρ, q, w⟩ := h
  unfold wE at w
  refine ⟨Hf, ρ, q, wE_mono G.mono xa E _ _ _ (fun r ρ1 k v Hf1 H1 S q1 rr => ?_) w⟩
  cases hk : isiD (get ρ1 r) t with
  | none => rw [hk] at k; exact k.elim
  | some b =>
    rw [hk] at k
    obtain ⟨u, e1, e2⟩ := isi_kit (K := X.K) hk
    exact ⟨v, .ty t, _, _, b, rfl, .ty t, tyX_of G.K q1.sub (rr.top q1) e1, e2, k _ _ _ S q1 (.bl _)⟩
end
end RK
namespace RK
open PySem L2
section
variable {F : Fc} {Hs Hf H Hf' H' Hf0 : Hp} {σ : St} {ρ ρ' ρ0 : En} {v : V}
theorem Rel.called (q : Rel F Hf H σ ρ) (r : Fr none Hf H Hf' H') : Rel F Hf' H' σ ρ := by
  refine ⟨q.len, r.sub, q.base.trans r.le, fun a u e1 e2 e3 => ?_, fun i a e => ?_, fun i s e => ?_, q.dist⟩
  · obtain ⟨k1, k2⟩ := q.keep a u e1 e2 e3
    exact r.keep a u k1 k2 (by intro z; cases z)
  · obtain ⟨k1, k2, k3⟩ := q.iok i a e
    cases ha : H a with
    | none => exact absurd ha k2
    | some u =>
      obtain ⟨m1, m2⟩ := r.keep a u ha k1 (by intro z; cases z)
      exact ⟨m2, (by rw [m1]; exact fun z => nomatch z), k3⟩
  · exact (q.slot i s e).mono r.le fun a vs ds hs hx h1 h2 => r.keep a _ h1 h2 (by intro z; cases z)
theorem Step.called (S : Step σ ρ0 ρ Hf0 Hs Hf H) (r : Fr none Hf H Hf' H') : Step σ ρ0 ρ Hf0 Hs Hf' H' :=
  ⟨S.le.trans r.le, fun a u e1 e2 e3 => by
    obtain ⟨k1, k2⟩ := S.out a u e1 e2 e3
    exact r.keep a u k1 k2 (by intro z; cases z), S.own, S.live, fun a e => S.dom a (r.dom a e)⟩
theorem isOwn_set {i j : Nat} {s t : Sl} (hi : ρ[i]? = some t) (ht : isOwn (some t) = true) (h : isOwn (ρ.set i s)[j]? = true) : isOwn ρ[j]? = true := by
  by_cases hj : j = i
  · subst hj; rw [hi]; exact ht
  · rw [set_ne hj] at h; exact h
/-- .. the list at a, slot i's own, holds os now -/
theorem Rel.calledIo {i : Nat} {a : Addr} {xs os : List D} {ws : List V} (q : Rel F Hf H σ ρ) (r : Fr (some a) Hf H Hf' H') (hi : ρ[i]? = some (.ow xs) ∨ ρ[i]? = some (.io xs)) (ha : σ[i]? = some (some (V.ref a))) (h1 : H' a = some (.lst ws)) (h2 : Hf' a = none) (h3 : Reps F.K F.fa Hf' ws os)
    {s' : Sl} (hs' : (ρ[i]? = some (.ow xs) ∧ s' = .ow os) ∨ (ρ[i]? = some (.io xs) ∧ s' = .io os)) : Rel F Hf' H' σ (ρ.set i s') := by
  have oi : isOwn ρ[i]? = true := by rcases hi with e | e <;> rw [e] <;> rfl
  have hia : ∃ t, ρ[i]? = some t ∧ isOwn (some t) = true := by rcases hi with e | e <;> exact ⟨_, e, rfl⟩
  obtain ⟨t, ht, hto⟩ := hia
  -- the caller's callers own nothing at a but by the in-out slot
  have notk : ∀ b o, F.H0 b = some o → F.Hf0 b = none → (∀ j, (j, b) ∉ F.ios) → some a ≠ some b := fun b o e1 e2 e3 z => by
    cases z
    rcases hi with e | e
    · obtain ⟨b, vs, e', _, _, _, n0⟩ := q.slot i _ e
      rw [ha] at e'; cases e'
      rw [e1] at n0; cases n0
    · obtain ⟨b, vs, e', _, _, _, n0⟩ := q.slot i _ e
      rw [ha] at e'; cases e'
      exact e3 i n0
  refine ⟨by rw [List.length_set]; exact q.len, r.sub, q.base.trans r.le, fun b u e1 e2 e3 => ?_, fun j b e => ?_, fun j s e => ?_, fun j k b hjk hj hk ej ek => q.dist j k b hjk (isOwn_set ht hto hj) (isOwn_set ht hto hk) ej ek⟩
  · obtain ⟨k1, k2⟩ := q.keep b u e1 e2 e3
    exact r.keep b u k1 k2 (notk b u e1 e2 e3)
  · obtain ⟨k1, k2, k3⟩ := q.iok j b e
    by_cases hb : b = a
    · subst hb; exact ⟨h2, (by rw [h1]; exact fun z => nomatch z), k3⟩
    · cases hu : H b with
      | none => exact absurd hu k2
      | some u =>
        obtain ⟨m1, m2⟩ := r.keep b u hu k1 (fun z => hb (by cases z; rfl))
        exact ⟨m2, (by rw [m1]; exact fun z => nomatch z), k3⟩
  · by_cases hj : j = i
    · subst hj
      rw [set_eq ht] at e
      cases e
      rcases hs' with ⟨e, rfl⟩ | ⟨e, rfl⟩
      · obtain ⟨b, vs, e', _, _, _, n0⟩ := q.slot j _ e
        rw [ha] at e'; cases e'
        exact ⟨a, ws, ha, h1, h2, h3, n0⟩
      · obtain ⟨b, vs, e', _, _, _, n0⟩ := q.slot j _ e
        rw [ha] at e'; cases e'
        exact ⟨a, ws, ha, h1, h2, h3, n0⟩
    · rw [set_ne hj] at e
      refine (q.slot j s e).mono r.le fun b vs ds hs hx g1 g2 => r.keep b _ g1 g2 fun z => ?_
      cases z
      exact q.dist j i a hj (by rw [e]; exact isOwn_of hs) oi hx ha
theorem Step.calledIo {i : Nat} {a : Addr} {s' : Sl} (S : Step σ ρ0 ρ Hf0 Hs Hf H) (r : Fr (some a) Hf H Hf' H') (oi : isOwn ρ[i]? = true) (ha : σ[i]? = some (some (V.ref a))) (hs' : s' ≠ .no) : Step σ ρ0 (ρ.set i s') Hf0 Hs Hf' H' := by
  have hi : ∃ t, ρ[i]? = some t := by
    cases h : ρ[i]? with
    | none => rw [h] at oi; cases oi
    | some t => exact ⟨t, rfl⟩
  obtain ⟨t, ht⟩ := hi
  refine ⟨S.le.trans r.le, fun b u e1 e2 e3 => ?_, fun j h => S.own j (isOwn_set ht (by rw [← ht]; exact oi) h), fun j s h n => ?_, fun a e => S.dom a (r.dom a e)⟩
  · obtain ⟨k1, k2⟩ := S.out b u e1 e2 e3
    refine r.keep b u k1 k2 fun z => ?_
    cases z
    exact e3 i (S.own i oi) ha
  · obtain ⟨u, hu, n'⟩ := S.live j s h n
    exact live_set ht hs' j u hu n'
end
section
variable {X : Cx} {F : Fc} {C : Ct} {T : Tab} {sc : Scope} {W : WX} {E : Xn → En → Prop}
theorem n_call (G : Gd X F C T sc W E) {f : Nat} {xs : List Ex} {e : Expr} {es : List Expr} {p pos : Pos} (hf : f < T.nf) (hg : glB sc (T.fn f) = true) (ho : okN (T.fn f) = true) (hm : mEs T xs sc (e :: es) = true) (hes : PA X (e :: es) (lR F (wRs C xs E))) : PE X (.Call (.Name (T.fn f) p) (e :: es) [] pos) (lE F (wE C (.call f xs) E)) := by
  have hst : starEach (e :: es) X.env = (false, eval e X.env) :: starEach es X.env := by
    cases xs with
    | nil => simp [mEs] at hm
    | cons x xs => simp only [mEs, Bool.and_eq_true] at hm; exact starEach_ns hm.1.2
  have hpl : (backTo pos (starEach es X.env)).any (·.1) = false := by
    cases xs with
    | nil => simp [mEs] at hm
    | cons x xs => simp only [mEs, Bool.and_eq_true] at hm; exact behind_any hm.2
  obtain ⟨k, fd, ps, F1, hr, hmg, hk, hb⟩ := (G.fns f hf).ex
  refine PE.imp (pe_callS F1 hr (gl_of G.sc hg) hmg hk hb (fun σ => passAt G.tk σ) hes (okN_of ho).1 hst hpl) fun σ H Q h => ?_
  obtain ⟨Hf, ρ, q, w⟩ := h
  unfold wE at w
  refine ⟨Hf, ρ, q, wRs_mono G.mono xs E _ _ _ (fun rs ρ1 k vs Hf1 H1 S q1 rr => ?_) w⟩
  unfold callD at k
  cases hio : C.io f with
  | none =>
    simp only [hio] at k
    obtain ⟨ds, ρ2, Hf2, k2, q2, r2, S2, _, _⟩ := keepRs_ok q S q1 rr k
    refine ⟨Hf2, ds, _, _, none, q2.sub, k2, r2, fun d o v Hf' H' hd fr res _ => ?_, fun x cls dd Hf' H' hx fr xr => G.we x ρ2 Hf' H' σ cls dd (q2.called fr) hx.2 xr⟩
    have S' := S2.called fr
    have q' := q2.called fr
    cases hfr : C.fr f with
    | false =>
      rw [hfr] at hd res
      exact hd _ _ _ S' q' res
    | true =>
      rw [hfr] at hd res
      cases d with
      | lst ys =>
        obtain ⟨p, ws, e1, e2, e3, e4, e5⟩ := res
        exact hd _ _ _ S' q' ⟨p, ws, e1, e2, e3, e4, S2.dom p e5⟩
      | _ => exact hd.elim
  | some n =>
    simp only [hio] at k
    cases rs with
    | nil => exact k.elim
    | cons r rest =>
      cases rr with
      | cons h1 ht _ =>
        rename_i v0 vs' _
        cases r with
        | v d => exact k.elim
        | f d => exact k.elim
        | b i =>
          obtain ⟨ds, ρ2, Hf2, k2, q2, r2, S2, _, P⟩ := keepRs_ok q S q1 ht k
          obtain ⟨hi, _⟩ := P v0 (.b i) h1 (fun _ _ _ _ _ _ z => by cases z)
          have go : ∀ (xs' : List D) (mk : List D → Sl), (∀ o, mk o ≠ .no) → (ρ2[i]? = some (.ow xs') ∧ mk = .ow ∨ ρ2[i]? = some (.io xs') ∧ mk = .io) → finD C f E (fun o => ρ2.set i (mk o)) ρ2 (fun r ρ' => ∀ v Hf' H', Step σ ρ ρ' Hf H Hf' H' → Rel F Hf' H' σ ρ' → RepR F H Hf' H' σ ρ' v r → Q v H') (.lst xs' :: ds) → lSp F.K F.fa true (C.fr f) (C.sp f) (v0 :: vs') H1 Q (L2.WE W σ) := by
            intro xs' mk hmk hmm k3
            have oi : isOwn ρ2[i]? = true := by rcases hmm with ⟨e, _⟩ | ⟨e, _⟩ <;> rw [e] <;> rfl
            obtain ⟨a, ws, ea, e1, e2, e3⟩ : ∃ a ws, σ[i]? = some (some (V.ref a)) ∧ H1 a = some (.lst ws) ∧ Hf2 a = none ∧ Reps F.K F.fa Hf2 ws xs' := by
              rcases hmm with ⟨e, _⟩ | ⟨e, _⟩
              · obtain ⟨a, ws, e', e1, e2, e3, _⟩ := q2.slot i _ e; exact ⟨a, ws, e', e1, e2, e3⟩
              · obtain ⟨a, ws, e', e1, e2, e3, _⟩ := q2.slot i _ e; exact ⟨a, ws, e', e1, e2, e3⟩
            have hv0 : v0 = .ref a := by rw [hi] at ea; cases ea; rfl
            subst hv0
            refine ⟨Hf2, _, _, _, some a, q2.sub, k3, ⟨ws, vs', xs', ds, rfl, rfl, e1, e2, e3, r2⟩, fun d o v Hf' H' hd fr res out => ?_, fun x cls dd Hf' H' hx fr xr => ?_⟩
            · obtain ⟨ws', g1, g2, g3⟩ := out
              have q' : Rel F Hf' H' σ (ρ2.set i (mk o)) := by
                rcases hmm with ⟨e, rfl⟩ | ⟨e, rfl⟩
                · exact q2.calledIo fr (.inl e) ea g1 g2 g3 (.inl ⟨e, rfl⟩)
                · exact q2.calledIo fr (.inr e) ea g1 g2 g3 (.inr ⟨e, rfl⟩)
              have S' := S2.calledIo fr oi ea (hmk o)
              cases hfr : C.fr f with
              | false =>
                rw [hfr] at hd res
                exact hd _ _ _ S' q' res
              | true =>
                rw [hfr] at hd res
                cases d with
                | lst ys =>
                  obtain ⟨p, ws, e1, e2, e3, e4, e5⟩ := res
                  exact hd _ _ _ S' q' ⟨p, ws, e1, e2, e3, e4, S2.dom p e5⟩
                | _ => exact hd.elim
            · rw [hio] at hx; cases hx.1
          cases hs : ρ2[i]? with
          | none => simp only [hs] at k2
          | some s =>
            simp only [hs] at k2
            cases s with
            | no => exact k2.elim
            | v d => exact k2.elim
            | ow xs' => exact go xs' .ow (fun _ z => by cases z) (.inl ⟨hs, rfl⟩) k2
            | io xs' => exact go xs' .io (fun _ z => by cases z) (.inr ⟨hs, rfl⟩) k2
end
end RK
namespace RK
open PySem L2
section
variable {F : Fc} {Hs Hf H Hf' H' Hf0 : Hp} {σ : St} {ρ ρ' ρ0 : En} {v : V}
/-- slot i's own list is changed -/
theorem Fr.write {a : Addr} {vs ws : List V} (l : Le Hf H) (h1 : H a = some (.lst vs)) (h2 : Hf a = none) : Fr (some a) Hf H Hf (upd H a (.lst ws)) :=
  ⟨Le.refl _, le_upd2 l h2, fun b o e1 e2 ne => by
    have : b ≠ a := fun z => ne (by rw [z])
    rw [upd_ne this]; exact ⟨e1, e2⟩, fun b e => by
    by_cases hb : b = a
    · subst hb; rw [upd_same] at e; cases e
    · rw [upd_ne hb] at e; exact e⟩
end
section
variable {X : Cx} {F : Fc} {C : Ct} {T : Tab} {sc : Scope} {W : WX} {E : Xn → En → Prop}
theorem m_append (G : Gd X F C T sc W E) {xo x : Ex} {y : Str} {yp : Pos} {e : Expr} {apos pos : Pos} (ho : PE X (.Name y yp) (lE F (wE C xo E))) (hn : noStar e = true) (hes : PA X [e] (lR F (wRs C [x] E))) (hl : (apos.endLine == pos.line) = true) : PE X (.Call (.Attribute (.Name y yp) "append" apos) [e] [] pos) (lE F (wE C (.meth .append xo [x]) E)) := by
  refine PE.imp (pe_bm PySem.F.plainAttrs_list PySem.F.slot_list_append PySem.F.type_list_append mt_append ho hes rfl (by rw [starEach_ns hn]; rfl) hl (starEach_ns hn) rfl) fun σ H Q h => ?_
  obtain ⟨Hf, ρ, q, w⟩ := h
  unfold wE at w
  refine ⟨Hf, ρ, q, wE_mono G.mono xo E _ _ _ (fun r ρ1 k v Hf1 H1 S q1 rr => ?_) w⟩
  obtain ⟨hl, k⟩ := k
  have ty : tyV X.K "list" v H1 := by
    have t := rr.top q1
    cases hg : get ρ1 r with
    | lst ds =>
      rw [hg] at t
      obtain ⟨a, vs, rfl, e1, _⟩ := t
      exact .inl ⟨rfl, vs, .inl (.inl e1)⟩
    | _ => rw [hg] at hl; cases hl
  refine ⟨ty, Hf1, ρ1, q1, wRs_mono G.mono [x] E _ _ _ (fun rs ρ2 k vs Hf2 H2 S2 q2 rrs => ?_) k⟩
  obtain ⟨ds, ρ3, Hf3, k3, q3, r3, S3, l3, P3⟩ := keepRs_ok q1 S2 q2 rrs k
  have S13 := S.trans S3
  unfold methD at k3
  rw [if_neg (by decide)] at k3
  cases r with
  | v d => exact k3.elim
  | f d => exact k3.elim
  | b i =>
    obtain ⟨hi, _⟩ := rr
    simp only at k3
    cases hs : ρ3[i]? with
    | none => simp only [hs] at k3
    | some t =>
      simp only [hs] at k3
      cases t with
      | no => exact k3.elim
      | v d => exact k3.elim
      | io d => exact k3.elim
      | ow xs =>
        match ds, vs, r3, k3 with
        | [], _, _, k3 => exact False.elim k3
        | _ :: _ :: _, _, _, k3 => exact k3.elim
        | [d], [u], .cons ru .nil, k3 =>
          obtain ⟨hz, k3⟩ := k3
          obtain ⟨a, ws, ea, e1, e2, e3, e4⟩ := q3.slot i _ hs
          rw [hi] at ea; cases ea
          refine ⟨a, ws, u, rfl, rfl, e1, by rw [e3.length]; exact hz, ?_⟩
          have fr := Fr.write (ws := ws ++ [u]) q3.sub e1 e2
          exact k3 _ _ _ (S13.calledIo fr (by rw [hs]; rfl) hi (fun z => nomatch z)) (q3.calledIo fr (.inl hs) hi upd_same e2 (e3.append (.cons ru .nil)) (.inl ⟨hs, rfl⟩)) .non
theorem m_count (G : Gd X F C T sc W E) {xo x : Ex} {y : Str} {yp : Pos} {e : Expr} {apos pos : Pos} (ho : PE X (.Name y yp) (lE F (wE C xo E))) (hn : noStar e = true) (hes : PA X [e] (lR F (wRs C [x] E))) (hl : (apos.endLine == pos.line) = true) : PE X (.Call (.Attribute (.Name y yp) "count" apos) [e] [] pos) (lE F (wE C (.meth .count xo [x]) E)) := by
  refine PE.imp (pe_bm PySem.F.plainAttrs_list PySem.F.slot_list_count PySem.F.type_list_count (show MtM X "list.count" (rCntI X.K) from mt_lcount) ho hes rfl (by rw [starEach_ns hn]; rfl) hl (starEach_ns hn) rfl) fun σ H Q h => ?_
  obtain ⟨Hf, ρ, q, w⟩ := h
  unfold wE at w
  refine ⟨Hf, ρ, q, wE_mono G.mono xo E _ _ _ (fun r ρ1 k v Hf1 H1 S q1 rr => ?_) w⟩
  obtain ⟨hl, k⟩ := k
  have ty : tyV X.K "list" v H1 := by
    have t := rr.top q1
    cases hg : get ρ1 r with
    | lst ds =>
      rw [hg] at t
      obtain ⟨a, vs, rfl, e1, _⟩ := t
      exact .inl ⟨rfl, vs, .inl (.inl e1)⟩
    | _ => rw [hg] at hl; cases hl
  refine ⟨ty, Hf1, ρ1, q1, wRs_mono G.mono [x] E _ _ _ (fun rs ρ2 k vs Hf2 H2 S2 q2 rrs => ?_) k⟩
  obtain ⟨ds, ρ3, Hf3, k3, q3, r3, S3, l3, P3⟩ := keepRs_ok q1 S2 q2 rrs k
  have S13 := S.trans S3
  unfold methD at k3
  rw [if_pos rfl] at k3
  have t := (RepR.step q S rr S3).top q3
  cases hg : get ρ3 r with
  | lst xs =>
    rw [hg] at t k3
    obtain ⟨a, ws, rfl, e1, e2⟩ := t
    match ds, vs, r3, k3 with
    | [], _, _, k3 => exact False.elim k3
    | d0 :: _ :: _, _, _, k3 => exact False.elim (by cases d0 <;> exact k3)
    | [d], [u], .cons ru .nil, k3 =>
      cases d <;> try exact False.elim k3
      rename_i z
      cases ru
      obtain ⟨ns, hn, kk⟩ := k3
      obtain ⟨rfl, rfl⟩ := reps_ints_of e2 hn
      exact ⟨a, ns, z, rfl, rfl, .inl (.inl e1), kk _ _ _ S13 q3 (.int _)⟩
  | _ => rw [hg] at k3; exact False.elim k3
theorem m_remove (G : Gd X F C T sc W E) {xo x : Ex} {y : Str} {yp : Pos} {e : Expr} {apos pos : Pos} (ho : PE X (.Name y yp) (lE F (wE C xo E))) (hn : noStar e = true) (hes : PA X [e] (lR F (wRs C [x] E))) (hl : (apos.endLine == pos.line) = true) : PE X (.Call (.Attribute (.Name y yp) "remove" apos) [e] [] pos) (lE F (wE C (.meth .remove xo [x]) E)) := by
  refine PE.imp (pe_bm PySem.F.plainAttrs_list PySem.F.slot_list_remove PySem.F.type_list_remove mt_remove ho hes rfl (by rw [starEach_ns hn]; rfl) hl (starEach_ns hn) rfl) fun σ H Q h => ?_
  obtain ⟨Hf, ρ, q, w⟩ := h
  unfold wE at w
  refine ⟨Hf, ρ, q, wE_mono G.mono xo E _ _ _ (fun r ρ1 k v Hf1 H1 S q1 rr => ?_) w⟩
  obtain ⟨hl, k⟩ := k
  have ty : tyV X.K "list" v H1 := by
    have t := rr.top q1
    cases hg : get ρ1 r with
    | lst ds =>
      rw [hg] at t
      obtain ⟨a, vs, rfl, e1, _⟩ := t
      exact .inl ⟨rfl, vs, .inl (.inl e1)⟩
    | _ => rw [hg] at hl; cases hl
  refine ⟨ty, Hf1, ρ1, q1, wRs_mono G.mono [x] E _ _ _ (fun rs ρ2 k vs Hf2 H2 S2 q2 rrs => ?_) k⟩
  obtain ⟨ds, ρ3, Hf3, k3, q3, r3, S3, l3, P3⟩ := keepRs_ok q1 S2 q2 rrs k
  have S13 := S.trans S3
  unfold methD at k3
  rw [if_neg (by decide)] at k3
  cases r with
  | v d => exact k3.elim
  | f d => exact k3.elim
  | b i =>
    obtain ⟨hi, _⟩ := rr
    simp only at k3
    cases hs : ρ3[i]? with
    | none => simp only [hs] at k3
    | some t =>
      simp only [hs] at k3
      cases t with
      | no => exact k3.elim
      | v d => exact k3.elim
      | io d => exact k3.elim
      | ow xs =>
        match ds, vs, r3, k3 with
        | [], _, _, k3 => exact False.elim k3
        | d0 :: _ :: _, _, _, k3 => exact False.elim (by cases d0 <;> exact k3)
        | [d], [u], .cons ru .nil, k3 =>
          cases d <;> try exact False.elim k3
          rename_i z
          cases ru
          obtain ⟨ns, j, hn, hj, hm, kk⟩ := k3
          obtain ⟨a, ws, ea, e1, e2, e3, e4⟩ := q3.slot i _ hs
          rw [hi] at ea; cases ea
          obtain ⟨rfl, rfl⟩ := reps_ints_of e3 hn
          refine ⟨a, ns, z, j, rfl, rfl, e1, hj, hm, ?_⟩
          have fr := Fr.write (ws := (ns.eraseIdx j).map V.int) q3.sub e1 e2
          exact kk _ _ _ (S13.calledIo fr (by rw [hs]; rfl) hi (fun z => nomatch z)) (q3.calledIo fr (.inl hs) hi upd_same e2 (reps_ints _) (.inl ⟨hs, rfl⟩)) .non
theorem m_popat (G : Gd X F C T sc W E) {xo x : Ex} {y : Str} {yp : Pos} {e : Expr} {apos pos : Pos} (ho : PE X (.Name y yp) (lE F (wE C xo E))) (hn : noStar e = true) (hes : PA X [e] (lR F (wRs C [x] E))) (hl : (apos.endLine == pos.line) = true) : PE X (.Call (.Attribute (.Name y yp) "pop" apos) [e] [] pos) (lE F (wE C (.meth .popat xo [x]) E)) := by
  refine PE.imp (pe_bm PySem.F.plainAttrs_list PySem.F.slot_list_pop PySem.F.type_list_pop mt_popAt ho hes rfl (by rw [starEach_ns hn]; rfl) hl (starEach_ns hn) rfl) fun σ H Q h => ?_
  obtain ⟨Hf, ρ, q, w⟩ := h
  unfold wE at w
  refine ⟨Hf, ρ, q, wE_mono G.mono xo E _ _ _ (fun r ρ1 k v Hf1 H1 S q1 rr => ?_) w⟩
  obtain ⟨hl, k⟩ := k
  have ty : tyV X.K "list" v H1 := by
    have t := rr.top q1
    cases hg : get ρ1 r with
    | lst ds =>
      rw [hg] at t
      obtain ⟨a, vs, rfl, e1, _⟩ := t
      exact .inl ⟨rfl, vs, .inl (.inl e1)⟩
    | _ => rw [hg] at hl; cases hl
  refine ⟨ty, Hf1, ρ1, q1, wRs_mono G.mono [x] E _ _ _ (fun rs ρ2 k vs Hf2 H2 S2 q2 rrs => ?_) k⟩
  obtain ⟨ds, ρ3, Hf3, k3, q3, r3, S3, l3, P3⟩ := keepRs_ok q1 S2 q2 rrs k
  have S13 := S.trans S3
  unfold methD at k3
  rw [if_neg (by decide)] at k3
  cases r with
  | v d => exact k3.elim
  | f d => exact k3.elim
  | b i =>
    obtain ⟨hi, _⟩ := rr
    simp only at k3
    cases hs : ρ3[i]? with
    | none => simp only [hs] at k3
    | some t =>
      simp only [hs] at k3
      cases t with
      | no => exact k3.elim
      | v d => exact k3.elim
      | io d => exact k3.elim
      | ow xs =>
        match ds, vs, r3, k3 with
        | [], _, _, k3 => exact False.elim k3
        | d0 :: _ :: _, _, _, k3 => exact False.elim (by cases d0 <;> exact k3)
        | [d], [u], .cons ru .nil, k3 =>
          cases d <;> try exact False.elim k3
          rename_i z
          cases ru
          obtain ⟨n, d, ⟨h1, h2, hn⟩, hd, k3⟩ := k3
          obtain ⟨a, ws, ea, e1, e2, e3, e4⟩ := q3.slot i _ hs
          rw [hi] at ea; cases ea
          obtain ⟨y, hy, ry⟩ := e3.get hd
          refine ⟨a, ws, z, n, y, rfl, rfl, e1, h1, h2, by rw [e3.length]; exact hn, hy, ?_⟩
          have fr := Fr.write (ws := ws.eraseIdx n) q3.sub e1 e2
          exact k3 _ _ _ (S13.calledIo fr (by rw [hs]; rfl) hi (fun z => nomatch z)) (q3.calledIo fr (.inl hs) hi upd_same e2 (e3.eraseIdx n) (.inl ⟨hs, rfl⟩)) ry
theorem m_pop (G : Gd X F C T sc W E) {xo : Ex} {y : Str} {yp : Pos} {apos pos : Pos} (ho : PE X (.Name y yp) (lE F (wE C xo E))) (hl : (apos.endLine == pos.line) = true) : PE X (.Call (.Attribute (.Name y yp) "pop" apos) [] [] pos) (lE F (wE C (.meth .pop xo []) E)) := by
  refine PE.imp (pe_bm0 PySem.F.plainAttrs_list PySem.F.slot_list_pop PySem.F.type_list_pop mt_pop ho rfl hl) fun σ H Q h => ?_
  obtain ⟨Hf, ρ, q, w⟩ := h
  unfold wE at w
  refine ⟨Hf, ρ, q, wE_mono G.mono xo E _ _ _ (fun r ρ1 k v Hf1 H1 S q1 rr => ?_) w⟩
  obtain ⟨_, k⟩ := k
  unfold wRs at k
  unfold keepRs at k
  unfold methD at k
  rw [if_neg (by decide)] at k
  cases r with
  | v d => exact k.elim
  | f d => exact k.elim
  | b i =>
    simp only at k
    cases hs : ρ1[i]? with
    | none => simp only [hs] at k
    | some t =>
      simp only [hs] at k
      cases t with
      | no => exact k.elim
      | v d => exact k.elim
      | io d => exact k.elim
      | ow xs =>
        obtain ⟨d, hd, k⟩ := k
        obtain ⟨a, vs, ea, e1, e2, e3, e4⟩ := q1.slot i _ hs
        obtain ⟨hi, _⟩ := rr
        rw [ea] at hi; cases hi
        obtain ⟨u, hu, ru⟩ := e3.get hd
        refine ⟨.inl ⟨rfl, vs, .inl (.inl e1)⟩, a, vs, u, rfl, rfl, e1, by rw [e3.length]; exact hu, ?_⟩
        have fr := Fr.write (ws := vs.dropLast) q1.sub e1 e2
        exact k _ _ _ (S.calledIo fr (by rw [hs]; rfl) ea (fun z => nomatch z)) (q1.calledIo fr (.inl hs) ea upd_same e2 e3.dropLast (.inl ⟨hs, rfl⟩)) ru
end
end RK
namespace RK
open PySem L2
section
variable {F : Fc} {Hs Hf H Hf' H' Hf0 : Hp} {σ : St} {ρ ρ' ρ0 : En} {v : V}
theorem st_set_ne {σ : St} {i j : Nat} {x : Option V} (h : j ≠ i) : (σ.set i x)[j]? = σ[j]? := List.getElem?_set_ne (Ne.symm h)
theorem Rel.set {i : Nat} {d : D} (q : Rel F Hf H σ ρ) (hi : i < σ.length) (r : Rep F.K F.fa Hf v d) : Rel F Hf H (σ.set i (some v)) (ρ.set i (.v d)) := by
  refine ⟨by rw [List.length_set, List.length_set]; exact q.len, q.sub, q.base, q.keep, q.iok, fun j s e => ?_, fun j k b hjk hj hk ej ek => ?_⟩
  · by_cases hj : j = i
    · subst hj
      rw [List.getElem?_set_self (by rw [← q.len]; exact hi)] at e
      cases e
      exact ⟨v, List.getElem?_set_self hi, r⟩
    · rw [set_ne hj] at e
      rw [st_set_ne hj]; exact q.slot j s e
  · obtain ⟨nj, oj⟩ := own_set hj rfl
    obtain ⟨nk, ok⟩ := own_set hk rfl
    rw [st_set_ne nj] at ej
    rw [st_set_ne nk] at ek
    exact q.dist j k b hjk oj ok ej ek
theorem Rel.setOw {i : Nat} {a : Addr} {ws : List V} {ds : List D} (q : Rel F Hf H σ ρ) (hi : i < σ.length) (h1 : H a = some (.lst ws)) (h2 : Hf a = none) (h3 : Reps F.K F.fa Hf ws ds) (h4 : F.H0 a = none) (no : ∀ j : Nat, isOwn ρ[j]? = true → σ[j]? ≠ some (some (V.ref a))) : Rel F Hf H (σ.set i (some (V.ref a))) (ρ.set i (.ow ds)) := by
  have other : ∀ (j : Nat) (b : Addr), j ≠ i → isOwn (ρ.set i (.ow ds))[j]? = true → (σ.set i (some (V.ref a)))[j]? = some (some (V.ref b)) → isOwn ρ[j]? = true ∧ σ[j]? = some (some (V.ref b)) := fun j b nj oj ej => by
    rw [set_ne nj] at oj
    rw [st_set_ne nj] at ej
    exact ⟨oj, ej⟩
  refine ⟨by rw [List.length_set, List.length_set]; exact q.len, q.sub, q.base, q.keep, q.iok, fun j s e => ?_, fun j k b hjk hj hk ej ek => ?_⟩
  · by_cases hj : j = i
    · subst hj
      rw [List.getElem?_set_self (by rw [← q.len]; exact hi)] at e
      cases e
      exact ⟨a, ws, List.getElem?_set_self hi, h1, h2, h3, h4⟩
    · rw [set_ne hj] at e
      rw [st_set_ne hj]; exact q.slot j s e
  · by_cases nj : j = i
    · subst nj
      obtain ⟨ok, ek'⟩ := other k b (Ne.symm hjk) hk ek
      rw [List.getElem?_set_self hi] at ej
      cases ej
      exact no k ok ek'
    · obtain ⟨oj, ej'⟩ := other j b nj hj ej
      by_cases nk : k = i
      · subst nk
        rw [List.getElem?_set_self hi] at ek
        cases ek
        exact no j oj ej'
      · obtain ⟨ok, ek'⟩ := other k b nk hk ek
        exact q.dist j k b hjk oj ok ej' ek'
/-! ### targets -/
def gNames : List Nat → TGs
  | [] => gNil
  | i :: is => gCons (gName i) (gNames is)
def setAll (σ : St) : List Nat → List V → St
  | i :: is, v :: vs => setAll (σ.set i (some v)) is vs
  | _, _ => σ
theorem gNames_ok {Q : St → Hp → Prop} : ∀ {is : List Nat} {vs : List V} {σ : St}, is.length = vs.length → Q (setAll σ is vs) H → gNames is vs σ H Q
  | [], [], _, _, h => ⟨rfl, h⟩
  | i :: is, v :: vs, σ, e, h => ⟨v, vs, rfl, gNames_ok (by simpa using e) h⟩
  | [], _ :: _, _, e, _ => by simp at e
  | _ :: _, [], _, e, _ => by simp at e
theorem asgs_ok : ∀ {is : List Nat} {vs : List V} {ds : List D} {σ : St} {ρ : En} {Q : En → Prop}, Rel F Hf H σ ρ → (∀ i ∈ is, i < σ.length) → Reps F.K F.fa Hf vs ds → asgs ρ is ds Q → ∃ ρ', Q ρ' ∧ Rel F Hf H (setAll σ is vs) ρ' ∧ (∀ j : Nat, j ∉ is → ρ'[j]? = ρ[j]?) ∧ (∀ j : Nat, isOwn ρ'[j]? = true → isOwn ρ[j]? = true ∧ j ∉ is)
  | [], _, [], σ, ρ, Q, q, _, .nil, k => ⟨ρ, k, q, fun _ _ => rfl, fun _ h => ⟨h, by simp⟩⟩
  | i :: is, v :: vs, d :: ds, σ, ρ, Q, q, hl, .cons r rs, k => by
    obtain ⟨_, k⟩ := k
    have q' := q.set (hl i List.mem_cons_self) r
    have hl' : ∀ j ∈ is, j < (σ.set i (some v)).length := fun j hj => by rw [List.length_set]; exact hl j (List.mem_cons_of_mem _ hj)
    obtain ⟨ρ', a, b, c, d⟩ := asgs_ok (is := is) q' hl' rs k
    refine ⟨ρ', a, b, fun j hj => ?_, fun j hj => ?_⟩
    · rw [c j (fun z => hj (List.mem_cons_of_mem _ z)), set_ne (fun z => hj (by rw [z]; exact List.mem_cons_self))]
    · obtain ⟨d1, d2⟩ := d j hj
      obtain ⟨d3, d4⟩ := own_set d1 rfl
      exact ⟨d4, by simp [d3, d2]⟩
  | [], _, _ :: _, _, _, _, _, _, .cons _ _, k => k.elim
  | _ :: _, _, [], _, _, _, _, _, .nil, k => k.elim
end
section
variable {X : Cx} {F : Fc} {C : Ct} {T : Tab} {sc : Scope} {W : WX} {E : Xn → En → Prop}
theorem pg_or {e : Expr} {t t' : TG} (h : PG X e t) (h' : PG X e t') : PG X e (fun v σ H Q => t v σ H Q ∨ t' v σ H Q) :=
  ⟨fun pins s σ H v u Q I r k => by
    rcases k with k | k
    · exact h.run pins s σ H v u Q I r k
    · exact h'.run pins s σ H v u Q I r k⟩
/-- what the names of a target must be -/
structure TgOk (X : Cx) (T : Tab) (ok : Str → Bool) : Prop where
  N : X.N = T.N
  nd : T.N.Nodup
  loc : ∀ x, ok x = true → L2.Loc X.env.scope x
  fn : ∀ x, ok x = true → X.fn x = true ∨ X.env.scope.names.lookup x = some .local
theorem mGn_inv {ok : Str → Bool} {own : Option (List Nat)} {i : Nat} {e : Expr} (h : mGn T ok own i e = true) : ∃ x p, e = .Name x p ∧ T.N[i]? = some x ∧ ok x = true ∧ ∀ l, own = some l → i ∈ l := by
  cases e <;> try (simp [mGn] at h; done)
  rename_i x p
  simp only [mGn, Bool.and_eq_true, beq_iff_eq] at h
  refine ⟨x, p, rfl, h.1.1, h.1.2, fun l hl => ?_⟩
  subst hl
  simpa using h.2
theorem pg_n (O : TgOk X T ok) {own : Option (List Nat)} {i : Nat} {e : Expr} (h : mGn T ok own i e = true) : PG X e (gName i) := by
  obtain ⟨x, p, rfl, h1, h2, _⟩ := mGn_inv h
  exact pg_name (by rw [O.N]; exact O.nd) (by rw [O.N]; exact h1) (O.loc x h2) (O.fn x h2)
theorem pgs_l (O : TgOk X T ok) {own : Option (List Nat)} : ∀ {l : List Nat} {es : List Expr}, mGl T ok own l es = true → PGs X es (gNames l) ∧ (assignEach es X.env).length = l.length ∧ (assignEach es X.env).findIdx? (·.1) = none
  | [], [], _ => ⟨pgs_nil, rfl, rfl⟩
  | i :: is, e :: es, h => by
    simp only [mGl, Bool.and_eq_true] at h
    obtain ⟨a, b, c⟩ := pgs_l O h.2
    have h1 := pg_n O h.1
    obtain ⟨x, p, rfl, _⟩ := mGn_inv h.1
    refine ⟨pgs_cons h1 a rfl, by show (assignEach es X.env).length + 1 = _; rw [b]; rfl, ?_⟩
    show ((false, assign (.Name x p) X.env) :: assignEach es X.env).findIdx? (·.1) = none
    rw [List.findIdx?_cons, c]
    rfl
  | [], _ :: _, h => by simp [mGl] at h
  | _ :: _, [], h => by simp [mGl] at h
def gT (K : PySem.W.Frag) : Tg → TG
  | .n i => gName i
  | .t l => fun v σ H Q => gTup K l.length (gNames l) v σ H Q ∨ gLst K l.length (gNames l) v σ H Q
theorem pg_t (O : TgOk X T ok) (hc : X.calm = true) {own : Option (List Nat)} {t : Tg} {e : Expr} (h : mG T ok own t e = true) : PG X e (gT X.K t) := by
  cases t with
  | n i => exact pg_n O h
  | t l =>
    cases e <;> try (simp [mG] at h; done)
    obtain ⟨a, b, c⟩ := pgs_l O (show mGl T ok own l _ = true from h)
    exact pg_or (pg_tup hc a b c) (pg_lst hc a b c)
def tgI : Tg → List Nat
  | .n i => [i]
  | .t l => l
/-- constant data is stored -/
theorem asgT_v {Hf H : Hp} {σ : St} {ρ : En} {v : V} {d : D} {t : Tg} {Q : En → Prop} {QQ : St → Hp → Prop} (hK : X.K = F.K) (q : Rel F Hf H σ ρ) (hl : ∀ i ∈ tgI t, i < σ.length) (r : Rep F.K F.fa Hf v d) (k : asgT t (.v d) ρ Q)
    (f : ∀ ρ' vs, Q ρ' → vs.length = (tgI t).length → Rel F Hf H (setAll σ (tgI t) vs) ρ' → (∀ j : Nat, j ∉ tgI t → ρ'[j]? = ρ[j]?) → (∀ j : Nat, isOwn ρ'[j]? = true → isOwn ρ[j]? = true ∧ j ∉ tgI t) → QQ (setAll σ (tgI t) vs) H) : gT X.K t v σ H QQ := by
  cases t with
  | n i =>
    obtain ⟨_, k⟩ := k
    exact f _ [v] k rfl (q.set (hl i List.mem_cons_self) r) (fun j hj => set_ne (fun z => hj (by rw [z]; exact List.mem_cons_self))) fun j hj => by
      obtain ⟨a, b⟩ := own_set hj rfl
      exact ⟨b, by simp [tgI, a]⟩
  | t l =>
    unfold asgT keepR at k
    simp only at k
    cases r with
    | tup e rs =>
      obtain ⟨hn, k⟩ := k
      obtain ⟨ρ', k', q', c1, c2⟩ := asgs_ok q hl rs k
      refine .inl ⟨_, _, rfl, by rw [hK]; exact q.sub.sqT e, by rw [rs.length]; exact hn, gNames_ok (by rw [rs.length]; exact hn.symm) (f ρ' _ k' (by rw [rs.length]; exact hn) q' c1 c2)⟩
    | lst e rs =>
      obtain ⟨hn, k⟩ := k
      obtain ⟨ρ', k', q', c1, c2⟩ := asgs_ok q hl rs k
      refine .inr ⟨_, _, rfl, .inl (.inl (q.sub _ _ e)), by rw [rs.length]; exact hn, gNames_ok (by rw [rs.length]; exact hn.symm) (f ρ' _ k' (by rw [rs.length]; exact hn) q' c1 c2)⟩
    | _ => exact k.elim
end
end RK
namespace PySem
/-- enumerate of what begins so, by one argument -/
theorem rk_meets_en {v : Value} {o : Obj} {H : Heap → Prop} (B : Begins v o H) :
    Meets (Builtin.«enumerate.__new__» ⟨[.type "enumerate", v], []⟩) (fun _ R s => H s.heap ∧
      R (.ok (.ret (.ref (s.heap.push o).objs.size))) { s with heap := (s.heap.push o).push ⟨.type "enumerate", none, .fields #[.none, .bool false, .ref s.heap.objs.size, rawInt 0, .none, .none], #[]⟩ }) :=
  .of_wp fun prog w A R s h => by
    obtain ⟨hp, gg, dr, tk, oss⟩ := s
    obtain ⟨hst, hR⟩ := h
    have hsub := sub_enumerate
    have it1 : ∀ {A' : Around} {E' Q' : Value → Shared → Prop}, Q' (.ref hp.objs.size) ⟨hp.push o, gg, dr, tk, oss⟩ → wpAny (model prog w) A' (pyIter v) Q' E' ⟨hp, gg, dr, tk, oss⟩ := fun q => B.iter prog w _ _ ⟨hp, gg, dr, tk, oss⟩ _ hst q
    wp_walk using it1
    refine wpAny_stack_any fun sk => wpAny_pure ?_
    split
    · rename_i c _ _ _ _ _
      cases (c == Value.type "enumerate") <;>
        (wp_walk using it1
         exact ⟨_, rfl, hR⟩)
    · wp_walk using it1
      exact ⟨_, rfl, hR⟩
theorem rk_enum_call {prog : Program} {w : World} {A : Around} {E : Value → Shared → Prop} {s : Shared} {v : Value} {o : Obj} {H : Heap → Prop} {Q : Value → Shared → Prop} (B : Begins v o H) (hst : H s.heap)
    (hq : ∀ h', IsEnum h' (s.heap.objs.size + 1) s.heap.objs.size 0 .none → h'.get? s.heap.objs.size = some o → (∀ b u, s.heap.get? b = some u → h'.get? b = some u) → Q (.ref (s.heap.objs.size + 1)) { s with heap := h' }) :
    wpAny (model prog w) A (call (.type "enumerate") [v]) Q E s := by
  refine callType_new F.called_enumerate (by decide) (F.typeCall_enumerate_1 _) (F.newCall_enumerate_1 _) (fun obj => F.args_object_init_2 obj _) F.entry_enumerate_new (rk_meets_en B) ⟨hst, ?_⟩
  have size1 : (s.heap.push o).objs.size = s.heap.objs.size + 1 := Heap.size_push ..
  have last := Heap.get?_push_size (s.heap.push o) (o := ⟨.type "enumerate", none, .fields #[.none, .bool false, .ref s.heap.objs.size, rawInt 0, .none, .none], #[]⟩) rfl
  rw [size1] at last
  show _ ∧ _
  rw [size1]
  exact ⟨⟨_, last, rfl⟩, hq _ last (Heap.get?_push_of_some _ (Heap.get?_push_size _ B.free)) fun b u e => Heap.get?_push_of_some _ (Heap.get?_push_of_some _ e)⟩
end PySem
namespace RK
open PySem L2
/-- nothing more is drawn -/
theorem rk_draw0 {prog : Program} {w : World} {A : Around} (hh : A.handled = none) (it a : Addr) (hne : a ≠ it) (items : Array Value) (n : Nat) (hn : items[n]? = none) :
    Draws prog w A it [it, a] n (fun _ _ => True) (fun j h => j = n ∧ h.IsTupleIter it a n ∧ h.IsTuple a items) where
  live := fun _ _ st => by
    obtain ⟨_, ⟨o, ho, _⟩, _⟩ := st
    exact ⟨o, ho⟩
  frame := fun _ _ _ st hk => ⟨st.1, st.2.1.at fun o e => hk it (by simp) o e, st.2.2.at fun o e => hk a (by simp) o e⟩
  item := fun j s Q E hj st _ => absurd st.1 (Nat.ne_of_lt hj)
  done := fun s Q E st hE => wpAny_nextOf_tuple_end hh st.2.1 st.2.2 hn hE
/-- enumerate over the tuple at a -/
def IteT (K : PySem.W.Frag) (a : Addr) : It where
  go := fun i H => ∃ (xs : List V) (x : V), SqT K H a xs ∧ xs[i]? = some x
  yld := fun i H v H' => ∃ T x, v = .ref T ∧ H T = none ∧ H' = upd H T (.tup [.int (i : Nat), x]) ∧ ∀ xs, SqT K H a xs → xs[i]? = some x
  stop := fun i H => ∃ xs : List V, SqT K H a xs ∧ xs.length ≤ i
theorem turn_enT {P : Program} {w : World} {K : PySem.W.Frag} {elts : List Expr} {kk : Nat} {tpos : Pos} (a e it : Addr) (items : Array Value) (hat : a ≠ it) :
    Turn P w K (.Tuple elts kk tpos) (IteT K a) [e, it] e (fun i h => (∃ old, IsEnum h e it ((i : Nat) : Int) old) ∧ h.IsTupleIter it a i ∧ e ≠ it ∧ e ≠ a) where
  mem := List.mem_cons_self
  obj := fun i h st b hb => by
    obtain ⟨⟨old, h1⟩, ⟨o, h2, _, h3⟩, _⟩ := st
    simp only [List.mem_cons, List.not_mem_nil, or_false] at hb
    rcases hb with rfl | rfl
    · exact ⟨_, h1, fun v z => nomatch z⟩
    · exact ⟨o, h2, fun v z => by rw [h3] at z; cases z⟩
  keep := fun i h h' st k => by
    obtain ⟨⟨old, h1⟩, h2, h3⟩ := st
    exact ⟨⟨old, k e (by simp) _ h1⟩, h2.at fun o z => k it (by simp) o z, h3⟩
  item := by
    intro X hP hw hK hc i pins s σ H E I hf st hg
    subst hP hw hK
    obtain ⟨⟨old, he⟩, hit, hne, hea⟩ := st
    obtain ⟨xs, x, hq, hx⟩ := hg
    obtain ⟨its, rv, p, hz⟩ := I.tuple hq
    obtain ⟨u, hu, ru⟩ := rv.get hx
    have lt_e : e < s.heap.objs.size := Heap.lt_size he
    have lt_it : it < s.heap.objs.size := by obtain ⟨_, z, _⟩ := hit; exact Heap.lt_size z
    have hi : i < its.toArray.size := by
      have := (List.getElem?_eq_some_iff.mp hu).1
      simpa using this
    refine wpAny_pyNext_enum_itemD (Draws.tuple (A := X.A.in1) (I.ok.hd hc) it a hat its.toArray) he ⟨hit, p⟩ hi hne (by simp; exact ⟨hne, hea⟩) fun y h' tk hy ho hst hT hsz hk => ?_
    have ey : y = u := by
      have z : its.toArray[i]? = some u := by simpa using hu
      rw [z] at hy; cases hy; rfl
    subst ey
    refine ⟨_, rfl, wpAny_letOwnedTupleGo_enum (s := { s with heap := h', toks := tk + 1 }) ho fun h'' he' sb => ?_⟩
    have new_at : h''.get? s.heap.objs.size = some ⟨.type "tuple", none, .seq #[.int i tk, y] 0, #[]⟩ := (sb.2 _ (Nat.ne_of_gt lt_e)).trans hT
    have new_ok : ObjOk X.prog X.w (upd H s.heap.objs.size (.tup [.int (i : Nat), x])) h'' s.heap.objs.size (.tup [.int (i : Nat), x]) :=
      ⟨by show 2 ≤ sizeLine; decide, [.int i tk, y], .cons ⟨_, rfl⟩ (.cons ru .nil), ⟨_, new_at, rfl, _, rfl⟩⟩
    have J : Inv X pins σ (upd H s.heap.objs.size (.tup [.int (i : Nat), x])) { s with heap := h'', toks := tk + 1 } :=
      I.turnedNew (ch := [e, it]) (fun b ob hb z => (sb.2 b (fun c => hb (by simp [c]))).trans (hk b ob (fun c => hb (by simp [c])) (fun c => hb (by simp [c])) z)) hf (Nat.le_refl _) new_ok
    refine ⟨.ref s.heap.objs.size, _, J, rfl, ⟨_, x, rfl, I.hok.fresh (Nat.le_refl _), rfl, fun ys hy => by rw [I.tuple_inj hy hq]; exact hx⟩, ⟨⟨y, ?_⟩, hst.1.at fun o z => (sb.2 it (Ne.symm hne)).trans z, hne, hea⟩, fun b hb => ?_⟩
    · rw [show ((i + 1 : Nat) : Int) = (i : Int) + 1 by omega]
      exact he'
    · have low : b < s.heap.objs.size := by
        simp only [List.mem_cons, List.not_mem_nil, or_false] at hb
        rcases hb with rfl | rfl
        · exact lt_e
        · exact lt_it
      rw [upd_ne (Nat.ne_of_lt low)]
      exact (hf b hb).1
  done := by
    intro X hP hw hK hc i pins s σ H E I hf st hg
    subst hP hw hK
    obtain ⟨⟨old, he⟩, hit, hne, hea⟩ := st
    obtain ⟨xs, hq, hx⟩ := hg
    obtain ⟨its, rv, p, hz⟩ := I.tuple hq
    obtain ⟨f0, f1, f2, f3, f4, f5⟩ := hf it (by simp)
    have hl := rv.length
    have past : its.toArray[i]? = none := by simp; omega
    exact wpAny_pyNext_enum_endD (rk_draw0 (A := X.A.in1) (I.ok.hd hc) it a hat its.toArray i past) he ⟨rfl, hit, p⟩ fun h' eb => ⟨rfl, I.turned (t' := s.toks) (fun b u hb z => eb b u hb z) f0 f1 f3 f4 f5⟩
  self := fun A i s Q E st h => by
    obtain ⟨⟨_, he⟩, _⟩ := st
    exact wpAny_pyIter_enum he h
/-- of a list or of a tuple -/
def iEnA (K : PySem.W.Frag) (ta : TA) : TI := fun σ H R => ta σ H fun vs H1 => ∃ a xs, vs = [.ref a] ∧ ((SqL K H1 a xs ∧ R (Ite K a) H1) ∨ (SqT K H1 a xs ∧ R (IteT K a) H1))
theorem pi_enA {X : Cx} {e : Expr} {ta : TA} {p pos tpos : Pos} {elts : List Expr} {kk : Nat} (hg : Gl X "enumerate") (hm : X.mg "enumerate" = none) (ha : PA X [e] ta) (hs : starEach [e] X.env = (false, eval e X.env) :: starEach [] X.env) :
    PI X (.Tuple elts kk tpos) (.Call (.Name "enumerate" p) [e] [] pos) (iEnA X.K ta) := by
  refine ⟨fun pins s σ H R I h => ?_⟩
  refine PyProof.Rows.Call_ (ld_blt I hg hm PyProof.Rows.boot_enumerate (PyProof.Rows.callWith_type1 (thn (ha.run pos pins s σ H _ I h) fun us s1 ⟨vs, H1, I1, r1, q1⟩ => ?_) hs rfl))
  obtain ⟨a, xs, ex, q1⟩ := q1
  subst ex
  cases r1 with
  | cons r rr =>
    cases rr
    cases r
    have far : ∀ b, b = s1.heap.objs.size + 1 ∨ b = s1.heap.objs.size → s1.heap.objs.size ≤ b := fun b hb => by omega
    rcases q1 with ⟨hq, q⟩ | ⟨hq, q⟩
    · obtain ⟨its, rv, pl, hz⟩ := I1.list hq
      refine call_enumerate_list pl.isList fun h' he hit hsz hk => wpAny_pyIter_enum he ?_
      refine ⟨s1.heap.objs.size + 1, [s1.heap.objs.size + 1, s1.heap.objs.size], _, _, H1, rfl, I1.kept (t' := s1.toks) hk, turn_enum a _ _, ⟨⟨.none, he⟩, hit, Nat.succ_ne_self _⟩, fun b hb => ?_, q⟩
      have low := far b (by simpa using hb)
      exact I1.fpOk low (I1.hok.fresh low)
    · obtain ⟨its, rv, pt, hz⟩ := I1.tuple hq
      have la : a < s1.heap.objs.size := by obtain ⟨o, z, _⟩ := pt; exact Heap.lt_size z
      refine PySem.rk_enum_call (begins_tuple a its.toArray) pt fun h' he hit hk => wpAny_pyIter_enum he ?_
      refine ⟨s1.heap.objs.size + 1, [s1.heap.objs.size + 1, s1.heap.objs.size], _, _, H1, rfl, I1.kept (t' := s1.toks) hk, turn_enT a _ _ its.toArray (Nat.ne_of_lt la), ⟨⟨.none, he⟩, ⟨_, hit, rfl, rfl⟩, Nat.succ_ne_self _, Nat.ne_of_gt (Nat.lt_succ_of_lt la)⟩, fun b hb => ?_, q⟩
      have low := far b (by simpa using hb)
      exact I1.fpOk low (I1.hok.fresh low)
end RK
namespace RK
open PySem L2
/-- what a walk yields: the data ds, while G stands -/
structure ItD (F : Fc) (J : It) (G : Hp → Hp → Prop) (ds : List D) : Prop where
  go : ∀ i Hf H, G Hf H → i < ds.length → J.go i H
  stop : ∀ i Hf H, G Hf H → ds.length ≤ i → J.stop i H
  yld : ∀ i Hf H x H', i < ds.length → G Hf H → Le Hf H → J.yld i H x H' → ∃ d, ds[i]? = some d ∧ ((H' = H ∧ Rep F.K F.fa Hf x d) ∨ (∃ p vs es, x = .ref p ∧ d = .tup es ∧ H p = none ∧ H' = upd H p (.tup vs) ∧ Reps F.K F.fa Hf vs es))
  mono : ∀ Hf H Hf' H', G Hf H → Le Hf Hf' → Le Hf' H' → G Hf' H'
abbrev WI := En → (List D → En → Prop) → Prop
def lI (F : Fc) (w : WI) : TI := fun σ H R => ∃ Hf ρ, Rel F Hf H σ ρ ∧ w ρ fun ds ρ' => ∀ Hf' H' J G, Step σ ρ ρ' Hf H Hf' H' → Rel F Hf' H' σ ρ' → ItD F J G ds → G Hf' H' → R J H'
section
variable {F : Fc}
theorem itd_list {K : PySem.W.Frag} (hK : K = F.K) {a : Addr} {vs : List V} {ds : List D} : ItD F (Itl K a) (fun Hf H => Le Hf H ∧ Hf a = some (.lst vs) ∧ Reps F.K F.fa Hf vs ds) ds where
  go := fun i Hf H ⟨l, e, r⟩ h => by
    have h' : i < vs.length := by rw [r.length]; exact h
    exact ⟨vs, vs[i], .inl (.inl (l _ _ e)), by simp [h']⟩
  stop := fun i Hf H ⟨l, e, r⟩ h => ⟨vs, .inl (.inl (l _ _ e)), by rw [r.length]; exact h⟩
  yld := fun i Hf H x H' _ ⟨l, e, r⟩ _ ⟨e1, y⟩ => by
    obtain ⟨d, h1, h2⟩ := r.getV (y vs (.inl (.inl (l _ _ e))))
    exact ⟨d, h1, .inl ⟨e1, h2⟩⟩
  mono := fun Hf H Hf' H' ⟨l, e, r⟩ l1 l2 => ⟨l2, l1 _ _ e, Reps.le l1 r⟩
theorem itd_tup {K : PySem.W.Frag} (hK : K = F.K) {a : Addr} {vs : List V} {ds : List D} : ItD F (Itt K a) (fun Hf H => Le Hf H ∧ SqT F.K Hf a vs ∧ Reps F.K F.fa Hf vs ds) ds where
  go := fun i Hf H ⟨l, e, r⟩ h => by
    have h' : i < vs.length := by rw [r.length]; exact h
    exact ⟨vs, vs[i], by rw [hK]; exact l.sqT e, by simp [h']⟩
  stop := fun i Hf H ⟨l, e, r⟩ h => ⟨vs, by rw [hK]; exact l.sqT e, by rw [r.length]; exact h⟩
  yld := fun i Hf H x H' _ ⟨l, e, r⟩ _ ⟨e1, y⟩ => by
    obtain ⟨d, h1, h2⟩ := r.getV (y vs (by rw [hK]; exact l.sqT e))
    exact ⟨d, h1, .inl ⟨e1, h2⟩⟩
  mono := fun Hf H Hf' H' ⟨l, e, r⟩ l1 l2 => ⟨l2, l1.sqT e, Reps.le l1 r⟩
theorem itd_rng {lo : Int} {n : Nat} : ItD F (Itr lo n) (fun _ _ => True) ((List.range n).map fun (k : Nat) => D.int (lo + (k : Int))) where
  go := fun i Hf H _ h => by
    show i < n
    simpa using h
  stop := fun i Hf H _ h => by
    show n ≤ i
    simpa using h
  yld := fun i Hf H x H' h _ _ y => by
    obtain ⟨e, rfl⟩ := y
    have h' : i < n := by simpa using h
    exact ⟨.int (lo + i), by simp [h'], .inl ⟨e, .int _⟩⟩
  mono := fun _ _ _ _ _ _ _ => trivial
theorem itd_rngC {lo c : Int} {n : Nat} : ItD F (Itc lo c n) (fun _ _ => True) ((List.range n).map fun (k : Nat) => D.int (lo + (k : Nat) * c)) where
  go := fun i Hf H _ h => by
    show i < n
    simpa using h
  stop := fun i Hf H _ h => by
    show n ≤ i
    simpa using h
  yld := fun i Hf H x H' h _ _ y => by
    obtain ⟨e, rfl⟩ := y
    have h' : i < n := by simpa using h
    exact ⟨.int (lo + (i : Nat) * c), by simp [h'], .inl ⟨e, .int _⟩⟩
  mono := fun _ _ _ _ _ _ _ => trivial
abbrev zipP (xs ys : List D) : List D := List.zipWith (fun a b => .tup [a, b]) xs ys
theorem zip_get {xs ys : List D} {i : Nat} (h : i < (zipP xs ys).length) : ∃ x y, xs[i]? = some x ∧ ys[i]? = some y ∧ (zipP xs ys)[i]? = some (.tup [x, y]) := by
  rw [List.length_zipWith] at h
  have h1 : i < xs.length := by omega
  have h2 : i < ys.length := by omega
  exact ⟨xs[i], ys[i], List.getElem?_eq_getElem h1, List.getElem?_eq_getElem h2, by rw [List.getElem?_zipWith, List.getElem?_eq_getElem h1, List.getElem?_eq_getElem h2]⟩
theorem itd_zip {K : PySem.W.Frag} (hK : K = F.K) {a b : Addr} {vs ws : List V} {xs ys : List D} : ItD F (Itz K a b) (fun Hf H => Le Hf H ∧ Hf a = some (.lst vs) ∧ Reps F.K F.fa Hf vs xs ∧ Hf b = some (.lst ws) ∧ Reps F.K F.fa Hf ws ys) (zipP xs ys) where
  go := fun i Hf H ⟨l, e, r, e', r'⟩ h => by
    obtain ⟨x, y, h1, h2, _⟩ := zip_get h
    obtain ⟨u, hu, _⟩ := r.get h1
    obtain ⟨u', hu', _⟩ := r'.get h2
    exact ⟨vs, ws, u, u', .inl (.inl (l _ _ e)), .inl (.inl (l _ _ e')), hu, hu'⟩
  stop := fun i Hf H ⟨l, e, r, e', r'⟩ h => ⟨vs, ws, .inl (.inl (l _ _ e)), .inl (.inl (l _ _ e')), by rw [List.length_zipWith] at h; rw [r.length, r'.length]; omega⟩
  yld := fun i Hf H x H' h ⟨l, e, r, e', r'⟩ _ y => by
    obtain ⟨T, u, u', rfl, hT, hH, k1, k2⟩ := y
    obtain ⟨dx, dy, h1, h2, h3⟩ := zip_get h
    obtain ⟨d1, g1, g2⟩ := r.getV (k1 vs (.inl (.inl (l _ _ e))))
    obtain ⟨d2, g3, g4⟩ := r'.getV (k2 ws (.inl (.inl (l _ _ e'))))
    rw [h1] at g1; cases g1
    rw [h2] at g3; cases g3
    exact ⟨_, h3, .inr ⟨T, _, _, rfl, rfl, hT, hH, .cons g2 (.cons g4 .nil)⟩⟩
  mono := fun Hf H Hf' H' ⟨l, e, r, e', r'⟩ l1 l2 => ⟨l2, l1 _ _ e, Reps.le l1 r, l1 _ _ e', Reps.le l1 r'⟩
theorem itd_zipT {K : PySem.W.Frag} (hK : K = F.K) {a b : Addr} {vs ws : List V} {xs ys : List D} : ItD F (RZ.ItzT K a b) (fun Hf H => Le Hf H ∧ SqT F.K Hf a vs ∧ Reps F.K F.fa Hf vs xs ∧ SqT F.K Hf b ws ∧ Reps F.K F.fa Hf ws ys) (zipP xs ys) where
  go := fun i Hf H ⟨l, e, r, e', r'⟩ h => by
    subst hK
    obtain ⟨x, y, h1, h2, _⟩ := zip_get h
    obtain ⟨u, hu, _⟩ := r.get h1
    obtain ⟨u', hu', _⟩ := r'.get h2
    exact ⟨vs, ws, u, u', l.sqT e, l.sqT e', hu, hu'⟩
  stop := fun i Hf H ⟨l, e, r, e', r'⟩ h => by
    subst hK
    exact ⟨vs, ws, l.sqT e, l.sqT e', by rw [List.length_zipWith] at h; rw [r.length, r'.length]; omega⟩
  yld := fun i Hf H x H' h ⟨l, e, r, e', r'⟩ _ y => by
    subst hK
    obtain ⟨T, u, u', rfl, hT, hH, k1, k2⟩ := y
    obtain ⟨dx, dy, h1, h2, h3⟩ := zip_get h
    obtain ⟨d1, g1, g2⟩ := r.getV (k1 vs (l.sqT e))
    obtain ⟨d2, g3, g4⟩ := r'.getV (k2 ws (l.sqT e'))
    rw [h1] at g1; cases g1
    rw [h2] at g3; cases g3
    exact ⟨_, h3, .inr ⟨T, _, _, rfl, rfl, hT, hH, .cons g2 (.cons g4 .nil)⟩⟩
  mono := fun Hf H Hf' H' ⟨l, e, r, e', r'⟩ l1 l2 => ⟨l2, l1.sqT e, Reps.le l1 r, l1.sqT e', Reps.le l1 r'⟩
theorem enumL_len : ∀ {n : Nat} {xs : List D}, (enumL n xs).length = xs.length
  | _, [] => rfl
  | n, _ :: r => by simp only [enumL, List.length_cons, enumL_len]
theorem enumL_get : ∀ {n i : Nat} {xs : List D} {x : D}, xs[i]? = some x → (enumL n xs)[i]? = some (.tup [.int ((n + i : Nat) : Int), x])
  | _, _, [], _, h => by simp at h
  | n, 0, y :: r, x, h => by simp at h; subst h; simp [enumL]
  | n, i + 1, y :: r, x, h => by
    have := enumL_get (n := n + 1) (i := i) (xs := r) (by simpa using h)
    simp only [enumL, List.getElem?_cons_succ, this]
    rw [show n + 1 + i = n + (i + 1) by omega]
theorem itd_enumT {K : PySem.W.Frag} (hK : K = F.K) {a : Addr} {vs : List V} {xs : List D} : ItD F (IteT K a) (fun Hf H => Le Hf H ∧ SqT F.K Hf a vs ∧ Reps F.K F.fa Hf vs xs) (enumL 0 xs) where
  go := fun i Hf H ⟨l, e, r⟩ h => by
    subst hK
    rw [enumL_len] at h
    have h' : i < vs.length := by rw [r.length]; exact h
    exact ⟨vs, vs[i], l.sqT e, by simp [h']⟩
  stop := fun i Hf H ⟨l, e, r⟩ h => by
    subst hK
    exact ⟨vs, l.sqT e, by rw [enumL_len] at h; rw [r.length]; exact h⟩
  yld := fun i Hf H x H' h ⟨l, e, r⟩ _ y => by
    subst hK
    obtain ⟨T, u, rfl, hT, hH, k1⟩ := y
    obtain ⟨d, g1, g2⟩ := r.getV (k1 vs (l.sqT e))
    refine ⟨_, enumL_get g1, .inr ⟨T, _, _, rfl, rfl, hT, hH, .cons ?_ (.cons g2 .nil)⟩⟩
    rw [Nat.zero_add]; exact .int _
  mono := fun Hf H Hf' H' ⟨l, e, r⟩ l1 l2 => ⟨l2, l1.sqT e, Reps.le l1 r⟩
theorem itd_enum {K : PySem.W.Frag} (hK : K = F.K) {a : Addr} {vs : List V} {xs : List D} : ItD F (Ite K a) (fun Hf H => Le Hf H ∧ Hf a = some (.lst vs) ∧ Reps F.K F.fa Hf vs xs) (enumL 0 xs) where
  go := fun i Hf H ⟨l, e, r⟩ h => by
    rw [enumL_len] at h
    have h' : i < vs.length := by rw [r.length]; exact h
    exact ⟨vs, vs[i], .inl (.inl (l _ _ e)), by simp [h']⟩
  stop := fun i Hf H ⟨l, e, r⟩ h => ⟨vs, .inl (.inl (l _ _ e)), by rw [enumL_len] at h; rw [r.length]; exact h⟩
  yld := fun i Hf H x H' h ⟨l, e, r⟩ _ y => by
    obtain ⟨T, u, rfl, hT, hH, k1⟩ := y
    obtain ⟨d, g1, g2⟩ := r.getV (k1 vs (.inl (.inl (l _ _ e))))
    refine ⟨_, enumL_get g1, .inr ⟨T, _, _, rfl, rfl, hT, hH, .cons ?_ (.cons g2 .nil)⟩⟩
    rw [Nat.zero_add]; exact .int _
  mono := fun Hf H Hf' H' ⟨l, e, r⟩ l1 l2 => ⟨l2, l1 _ _ e, Reps.le l1 r⟩
end
section
variable {X : Cx} {F : Fc} {C : Ct} {T : Tab} {sc : Scope} {W : WX} {E : Xn → En → Prop}
/-- a list or a tuple walked -/
theorem pi_seq {tg l : Expr} {tl : TE} (hl : PE X l tl) : PI X tg l (fun σ H R => tl σ H fun x H1 => ∃ a, x = .ref a ∧ ((∃ xs, SqL X.K H1 a xs ∧ R (Itl X.K a) H1) ∨ (∃ xs, SqT X.K H1 a xs ∧ R (Itt X.K a) H1))) := by
  refine ⟨fun pins s σ H R I h => ?_⟩
  refine thn (hl.run pins s σ H _ I h) fun v s1 ⟨x, H1, I1, r1, q1⟩ => ?_
  obtain ⟨a, e, q⟩ := q1
  subst e
  cases r1
  rcases q with ⟨xs, hq, q⟩ | ⟨xs, hq, q⟩
  · obtain ⟨its, rv, p, hz⟩ := I1.list hq
    refine wpAny_pyIter_list p.isList ?_
    refine ⟨s1.heap.objs.size, [s1.heap.objs.size], _, _, H1, rfl, I1.kept (t' := s1.toks) fun b o e => Heap.get?_push_of_some _ e, turn_list a _, ⟨_, Heap.get?_push_size _ rfl, rfl, rfl⟩, fun b hb => ?_, q⟩
    have e : b = s1.heap.objs.size := by simpa using hb
    subst e
    exact I1.fpOk (Nat.le_refl _) (I1.hok.fresh (Nat.le_refl _))
  · obtain ⟨its, rv, p, hz⟩ := I1.tuple hq
    refine wpAny_pyIter_tuple (show s1.heap.IsTuple a its.toArray from p) ?_
    refine ⟨s1.heap.objs.size, [s1.heap.objs.size], _, _, H1, rfl, I1.kept (t' := s1.toks) fun b o e => Heap.get?_push_of_some _ e, turn_tuple a _, ⟨_, Heap.get?_push_size _ rfl, rfl, rfl⟩, fun b hb => ?_, q⟩
    have e : b = s1.heap.objs.size := by simpa using hb
    subst e
    exact I1.fpOk (Nat.le_refl _) (I1.hok.fresh (Nat.le_refl _))
theorem pi_imp {tg l : Expr} {t t' : TI} (h : PI X tg l t) (i : ∀ σ H R, t' σ H R → t σ H R) : PI X tg l t' := ⟨fun pins s σ H R I q => h.run pins s σ H R I (i σ H R q)⟩
theorem i_e (G : Gd X F C T sc W E) {x : Ex} {tg e : Expr} (he : PE X e (lE F (wE C x E))) : PI X tg e (lI F (wI C (.e x) E)) := by
  refine pi_imp (pi_seq he) fun σ H R h => ?_
  obtain ⟨Hf, ρ, q, w⟩ := h
  unfold wI at w
  refine ⟨Hf, ρ, q, wE_mono G.mono x E _ _ _ (fun r ρ1 k v Hf1 H1 S q1 rr => ?_) w⟩
  obtain ⟨d, ρ2, Hf2, k2, q2, r2, S2, l2, _⟩ := keepR_ok q S q1 rr k
  cases r2 with
  | tup e rs => exact ⟨_, rfl, .inr ⟨_, by rw [G.K]; exact q2.sub.sqT e, k2 _ _ _ _ S2 q2 (itd_tup G.K) ⟨q2.sub, e, rs⟩⟩⟩
  | lst e rs => exact ⟨_, rfl, .inl ⟨_, .inl (.inl (q2.sub _ _ e)), k2 _ _ _ _ S2 q2 (itd_list G.K) ⟨q2.sub, e, rs⟩⟩⟩
  | _ => exact k2.elim
theorem mEs_two {es : List Ex} {xs : List Expr} (h : mEs T es sc xs = true) (hl : (xs.length == 1 || xs.length == 2 || xs.length == 3) = true) : (∃ x e, es = [x] ∧ xs = [e] ∧ noStar e = true) ∨ (∃ x y e f, es = [x, y] ∧ xs = [e, f] ∧ noStar e = true ∧ noStar f = true) ∨ (∃ x y z e f g, es = [x, y, z] ∧ xs = [e, f, g] ∧ noStar e = true ∧ noStar f = true ∧ noStar g = true) := by
  match es, xs, h, hl with
  | [x], [e], h, _ => simp only [mEs, Bool.and_eq_true] at h; exact .inl ⟨x, e, rfl, rfl, h.1.2⟩
  | [x, y], [e, f], h, _ => simp only [mEs, Bool.and_eq_true] at h; exact .inr (.inl ⟨x, y, e, f, rfl, rfl, h.1.2, h.2.1.2⟩)
  | [x, y, z], [e, f, g], h, _ => simp only [mEs, Bool.and_eq_true] at h; exact .inr (.inr ⟨x, y, z, e, f, g, rfl, rfl, h.1.2, h.2.1.2, h.2.2.1.2⟩)
  | [], [], _, hl => simp at hl
  | [], _ :: _, h, _ => simp [mEs] at h
  | _ :: _, [], h, _ => simp [mEs] at h
  | [_], _ :: _ :: _, h, _ => simp [mEs] at h
  | _ :: _ :: _, [_], h, _ => simp [mEs] at h
  | [_, _], _ :: _ :: _ :: _, h, _ => simp [mEs] at h
  | _ :: _ :: _ :: _, [_, _], h, _ => simp [mEs] at h
  | [_, _, _], _ :: _ :: _ :: _ :: _, h, _ => simp [mEs] at h
  | _ :: _ :: _ :: _ :: _, [_, _, _], h, _ => simp [mEs] at h
  | _ :: _ :: _ :: _ :: _, _ :: _ :: _ :: _ :: _, _, hl => simp at hl
theorem wRs_len (hC : SpMono C) : ∀ (es : List Ex) (E : Xn → En → Prop) (ρ : En) (Q : List R → En → Prop), wRs C es E ρ Q → wRs C es E ρ fun rs ρ' => rs.length = es.length ∧ Q rs ρ'
  | [], E, ρ, Q, k => by unfold wRs at k ⊢; exact ⟨rfl, k⟩
  | e :: es, E, ρ, Q, k => by
    unfold wRs at k ⊢
    refine wE_mono hC e E _ _ _ (fun r ρ1 k => ?_) k
    exact wRs_mono hC es E _ _ _ (fun rs ρ2 ⟨a, b⟩ => ⟨by rw [List.length_cons, List.length_cons, a], b⟩) (wRs_len hC es E _ _ k)
theorem int_top {Hf H : Hp} {v : V} {d : D} {j : Int} (h : RepT F Hf H v d) (e : d = .int j) : v = .int j := by
  subst e; cases h; rfl
theorem RepRs.two {Hs Hf H : Hp} {σ : St} {ρ : En} : ∀ {vs : List V} {rs : List R}, RepRs F Hs Hf H σ ρ vs rs → rs.length = 2 → ∃ v v' r r', vs = [v, v'] ∧ rs = [r, r'] ∧ RepR F Hs Hf H σ ρ v r ∧ RepR F Hs Hf H σ ρ v' r'
  | _, _, .cons h1 (.cons h2 .nil _) _, _ => ⟨_, _, _, _, rfl, rfl, h1, h2⟩
  | _, _, .nil, e => by simp at e
  | _, _, .cons _ .nil _, e => by simp at e
  | _, _, .cons _ (.cons _ (.cons _ _ _) _) _, e => by simp at e
theorem RepRs.one {Hs Hf H : Hp} {σ : St} {ρ : En} : ∀ {vs : List V} {rs : List R}, RepRs F Hs Hf H σ ρ vs rs → rs.length = 1 → ∃ v r, vs = [v] ∧ rs = [r] ∧ RepR F Hs Hf H σ ρ v r
  | _, _, .cons h1 .nil _, _ => ⟨_, _, rfl, rfl, h1⟩
  | _, _, .nil, e => by simp at e
  | _, _, .cons _ (.cons _ _ _) _, e => by simp at e
theorem RepRs.three {Hs Hf H : Hp} {σ : St} {ρ : En} : ∀ {vs : List V} {rs : List R}, RepRs F Hs Hf H σ ρ vs rs → rs.length = 3 → ∃ v v' v'' r r' r'', vs = [v, v', v''] ∧ rs = [r, r', r''] ∧ RepR F Hs Hf H σ ρ v r ∧ RepR F Hs Hf H σ ρ v' r' ∧ RepR F Hs Hf H σ ρ v'' r''
  | _, _, .cons h1 (.cons h2 (.cons h3 .nil _) _) _, _ => ⟨_, _, _, _, _, _, rfl, rfl, h1, h2, h3⟩
  | _, _, .nil, e => by simp at e
  | _, _, .cons _ .nil _, e => by simp at e
  | _, _, .cons _ (.cons _ .nil _) _, e => by simp at e
  | _, _, .cons _ (.cons _ (.cons _ (.cons _ _ _) _) _) _, e => by simp at e
theorem rng1_inv {a : D} {Q : List D → Prop} (k : rngD [a] Q) : ∃ i, a = .int i ∧ (-(2 ^ 62) ≤ i ∧ i < 2 ^ 62) ∧ Q ((List.range i.toNat).map fun (k : Nat) => D.int (k : Int)) := by
  cases a <;> (try exact False.elim k)
  exact ⟨_, rfl, k.1, k.2⟩
theorem rng2_inv {a b : D} {Q : List D → Prop} (k : rngD [a, b] Q) : ∃ i j, a = .int i ∧ b = .int j ∧ (-(2 ^ 62) ≤ i ∧ i < 2 ^ 62 ∧ -(2 ^ 62) ≤ j ∧ j < 2 ^ 62) ∧ Q ((List.range (j - i).toNat).map fun (k : Nat) => D.int (i + (k : Int))) := by
  cases a <;> (try exact False.elim k) <;> cases b <;> (try exact False.elim k)
  exact ⟨_, _, rfl, rfl, k.1, k.2⟩
theorem rng3_inv {a b c : D} {Q : List D → Prop} (k : rngD [a, b, c] Q) : ∃ i j z n, a = .int i ∧ b = .int j ∧ c = .int z ∧ RgC i j z n ∧ Q ((List.range n).map fun (k : Nat) => D.int (i + (k : Nat) * z)) := by
  cases a <;> (try exact False.elim k) <;> cases b <;> (try exact False.elim k) <;> cases c <;> (try exact False.elim k)
  obtain ⟨n, h1, h2⟩ := k
  exact ⟨_, _, _, n, rfl, rfl, rfl, h1, h2⟩
theorem i_rng (G : Gd X F C T sc W E) {es : List Ex} {xs : List Expr} {tg : Expr} {p pos : Pos} (hg : glB sc "range" = true) (hm : mEs T es sc xs = true) (hl : (xs.length == 1 || xs.length == 2 || xs.length == 3) = true) (hes : PA X xs (lR F (wRs C es E))) : PI X tg (.Call (.Name "range" p) xs [] pos) (lI F (wI C (.rng es) E)) := by
  have hmg : X.mg "range" = none := G.blt _ (by decide)
  rcases mEs_two hm hl with ⟨x, e, rfl, rfl, n1⟩ | ⟨x, y, e, f, rfl, rfl, n1, n2⟩ | ⟨x, y, z, e, f, g, rfl, rfl, n1, n2, n3⟩
  · refine pi_imp (pi_range1 (gl_of G.sc hg) hmg hes (starEach_ns n1)) fun σ H R h => ?_
    obtain ⟨Hf, ρ, q, w⟩ := h
    unfold wI at w
    refine ⟨Hf, ρ, q, wRs_mono G.mono _ E _ _ _ (fun rs ρ1 ⟨hn, k⟩ vs Hf1 H1 S q1 rr => ?_) (wRs_len G.mono _ _ _ _ w)⟩
    obtain ⟨v, r, rfl, rfl, h1⟩ := rr.one (by simpa using hn)
    obtain ⟨j, e1, hb, k⟩ := rng1_inv k
    obtain rfl := int_top (h1.top q1) e1
    have d := itd_rng (F := F) (lo := 0) (n := j.toNat)
    simp only [Int.zero_add] at d
    exact ⟨j, rfl, hb.1, hb.2, k _ _ _ _ S q1 d trivial⟩
  · refine pi_imp (pi_range2 (gl_of G.sc hg) hmg hes (by rw [starEach_ns n1, starEach_ns n2]; rfl) (starEach_ns n2)) fun σ H R h => ?_
    obtain ⟨Hf, ρ, q, w⟩ := h
    unfold wI at w
    refine ⟨Hf, ρ, q, wRs_mono G.mono _ E _ _ _ (fun rs ρ1 ⟨hn, k⟩ vs Hf1 H1 S q1 rr => ?_) (wRs_len G.mono _ _ _ _ w)⟩
    obtain ⟨v, v', r, r', rfl, rfl, h1, h2⟩ := rr.two (by simpa using hn)
    obtain ⟨i, j, e1, e2, hb, k⟩ := rng2_inv k
    obtain rfl := int_top (h1.top q1) e1
    obtain rfl := int_top (h2.top q1) e2
    exact ⟨i, j, rfl, hb, k _ _ _ _ S q1 (itd_rng (F := F) (lo := i) (n := (j - i).toNat)) trivial⟩
  · refine pi_imp (pi_range3 (gl_of G.sc hg) hmg hes (starEach_ns n1) (by rw [starEach_ns n2, starEach_ns n3]; rfl)) fun σ H R h => ?_
    obtain ⟨Hf, ρ, q, w⟩ := h
    unfold wI at w
    refine ⟨Hf, ρ, q, wRs_mono G.mono _ E _ _ _ (fun rs ρ1 ⟨hn, k⟩ vs Hf1 H1 S q1 rr => ?_) (wRs_len G.mono _ _ _ _ w)⟩
    obtain ⟨v, v', v'', r, r', r'', rfl, rfl, h1, h2, h3⟩ := rr.three (by simpa using hn)
    obtain ⟨i, j, z, n, e1, e2, e3, hb, k⟩ := rng3_inv k
    obtain rfl := int_top (h1.top q1) e1
    obtain rfl := int_top (h2.top q1) e2
    obtain rfl := int_top (h3.top q1) e3
    exact ⟨i, j, z, n, rfl, hb, k _ _ _ _ S q1 (itd_rngC (F := F) (lo := i) (c := z) (n := n)) trivial⟩
theorem i_zip (G : Gd X F C T sc W E) {xa xb : Ex} {a b : Expr} {elts : List Expr} {kk : Nat} {tpos p pos : Pos} (hg : glB sc "zip" = true) (n1 : noStar a = true) (n2 : noStar b = true) (hes : PA X [a, b] (lR F (wRs C [xa, xb] E))) : PI X (.Tuple elts kk tpos) (.Call (.Name "zip" p) [a, b] [] pos) (lI F (wI C (.zip xa xb) E)) := by
  have hmg : X.mg "zip" = none := G.blt _ (by decide)
  refine pi_imp (RZ.pi_zipA (gl_of G.sc hg) hmg hes (starEach_ns n1) (by rw [starEach_ns n2]; rfl)) fun σ H R h => ?_
  obtain ⟨Hf, ρ, q, w⟩ := h
  unfold wI at w
  refine ⟨Hf, ρ, q, ?_⟩
  unfold wRs
  refine wE_mono G.mono xa E _ _ _ (fun r1 ρ1 k1 => ?_) w
  unfold wRs
  refine wE_mono G.mono xb E _ _ _ (fun r2 ρ2 k2 => ?_) k1
  unfold wRs
  intro vs Hf1 H1 S q1 rr
  obtain ⟨v, v', _, _, rfl, e, h1, h2⟩ := rr.two rfl
  cases e
  obtain ⟨d1, ρ3, Hf3, k3, q3, r3, S3, l3, f3⟩ := keepR_ok q S q1 h1 k2
  cases rr with
  | cons _ t dj =>
    have h2' := f3 v' r2 h2 (fun a b => dj 0 v' r2 a rfl rfl b)
    obtain ⟨d2, ρ4, Hf4, k4, q4, r4, S4, l4, _⟩ := keepR_ok q S3 q3 h2' k3
    have r3' := Rep.le l4 r3
    cases d1 <;> (try (cases d2 <;> exact k4.elim))
    case lst xs =>
      cases d2 <;> (try exact k4.elim)
      cases r3' with
      | lst e1 rs1 => cases r4 with
        | lst e2 rs2 => exact ⟨_, _, _, _, rfl, .inl ⟨.inl (.inl (q4.sub _ _ e1)), .inl (.inl (q4.sub _ _ e2)), k4 _ _ _ _ S4 q4 (itd_zip G.K) ⟨q4.sub, e1, rs1, e2, rs2⟩⟩⟩
    case tup xs =>
      cases d2 <;> (try exact k4.elim)
      cases r3' with
      | tup e1 rs1 => cases r4 with
        | tup e2 rs2 => exact ⟨_, _, _, _, rfl, .inr ⟨by rw [G.K]; exact q4.sub.sqT e1, by rw [G.K]; exact q4.sub.sqT e2, k4 _ _ _ _ S4 q4 (itd_zipT G.K) ⟨q4.sub, e1, rs1, e2, rs2⟩⟩⟩
theorem i_enum (G : Gd X F C T sc W E) {xa : Ex} {a : Expr} {elts : List Expr} {kk : Nat} {tpos p pos : Pos} (hg : glB sc "enumerate" = true) (n1 : noStar a = true) (hes : PA X [a] (lR F (wRs C [xa] E))) : PI X (.Tuple elts kk tpos) (.Call (.Name "enumerate" p) [a] [] pos) (lI F (wI C (.enum xa) E)) := by
  have hmg : X.mg "enumerate" = none := G.blt _ (by decide)
  refine pi_imp (pi_enA (gl_of G.sc hg) hmg hes (starEach_ns n1)) fun σ H R h => ?_
  obtain ⟨Hf, ρ, q, w⟩ := h
  unfold wI at w
  refine ⟨Hf, ρ, q, ?_⟩
  unfold wRs
  refine wE_mono G.mono xa E _ _ _ (fun r1 ρ1 k1 => ?_) w
  unfold wRs
  intro vs Hf1 H1 S q1 rr
  obtain ⟨v, _, rfl, e, h1⟩ := rr.one rfl
  cases e
  obtain ⟨d, ρ2, Hf2, k2, q2, r2, S2, l2, _⟩ := keepR_ok q S q1 h1 k1
  cases r2 with
  | tup e rs => exact ⟨_, _, rfl, .inr ⟨by rw [G.K]; exact q2.sub.sqT e, k2 _ _ _ _ S2 q2 (itd_enumT G.K) ⟨q2.sub, e, rs⟩⟩⟩
  | lst e rs => exact ⟨_, _, rfl, .inl ⟨.inl (.inl (q2.sub _ _ e)), k2 _ _ _ _ S2 q2 (itd_enum G.K) ⟨q2.sub, e, rs⟩⟩⟩
  | _ => exact k2.elim
end
end RK
namespace RK
open PySem L2
section
variable {F : Fc} {Hs Hf H Hf' H' Hf0 Hf1 H1 : Hp} {σ : St} {ρ ρ' ρ0 ρ1 : En} {v : V}
theorem wipe_in {σ : St} : ∀ {vs : List Nat} {j : Nat}, j ∈ vs → j < σ.length → (wipe σ vs)[j]? = some none
  | v :: vs, j, h, hl => by
    show ((wipe σ vs).set v none)[j]? = _
    by_cases hj : j = v
    · subst hj; exact List.getElem?_set_self (by rw [wipe_length]; exact hl)
    · rw [st_set_ne hj]
      exact wipe_in ((List.mem_cons.mp h).resolve_left hj) hl
theorem wipe_eq {σ τ : St} {vs : List Nat} (hl : τ.length = σ.length) (h : ∀ j : Nat, j ∉ vs → τ[j]? = σ[j]?) : wipe τ vs = wipe σ vs := by
  apply List.ext_getElem?
  intro j
  by_cases hj : j ∈ vs
  · by_cases hz : j < σ.length
    · rw [wipe_in hj hz, wipe_in hj (by rw [hl]; exact hz)]
    · rw [List.getElem?_eq_none (by rw [wipe_length, hl]; omega), List.getElem?_eq_none (by rw [wipe_length]; omega)]
  · rw [wipe_out hj, wipe_out hj, h j hj]
theorem setAll_len : ∀ {is : List Nat} {vs : List V} {σ : St}, (setAll σ is vs).length = σ.length
  | [], _, _ => by unfold setAll; rfl
  | _ :: _, [], _ => by unfold setAll; rfl
  | i :: is, v :: vs, σ => by unfold setAll; rw [setAll_len, List.length_set]
theorem setAll_ne : ∀ {is : List Nat} {vs : List V} {σ : St} {j : Nat}, j ∉ is → (setAll σ is vs)[j]? = σ[j]?
  | [], _, _, _, _ => by unfold setAll; rfl
  | _ :: _, [], _, _, _ => by unfold setAll; rfl
  | i :: is, v :: vs, σ, j, h => by
    unfold setAll
    rw [setAll_ne (fun z => h (List.mem_cons_of_mem _ z)), st_set_ne (fun z => h (by rw [z]; exact List.mem_cons_self))]
theorem wipeE_len : ∀ {vs : List Nat} {ρ : En}, (wipeE ρ vs).length = ρ.length
  | [], _ => rfl
  | v :: vs, ρ => by unfold wipeE; rw [List.length_set, wipeE_len]
theorem wipeE_out {ρ : En} : ∀ {vs : List Nat} {j : Nat}, j ∉ vs → (wipeE ρ vs)[j]? = ρ[j]?
  | [], _, _ => rfl
  | v :: vs, j, h => by
    show ((wipeE ρ vs).set v .no)[j]? = _
    rw [set_ne (fun z => h (by rw [z]; exact List.mem_cons_self)), wipeE_out (fun z => h (List.mem_cons_of_mem _ z))]
theorem wipeE_in {ρ : En} : ∀ {vs : List Nat} {j : Nat} {s : Sl}, j ∈ vs → (wipeE ρ vs)[j]? = some s → s = .no
  | v :: vs, j, s, h, e => by
    have e : ((wipeE ρ vs).set v .no)[j]? = some s := e
    by_cases hj : j = v
    · subst hj
      by_cases hl : j < (wipeE ρ vs).length
      · rw [List.getElem?_set_self hl] at e; cases e; rfl
      · rw [List.getElem?_eq_none (by simpa using hl)] at e; cases e
    · rw [set_ne hj] at e
      exact wipeE_in ((List.mem_cons.mp h).resolve_left hj) e
theorem wipeE_own {ρ : En} {vs : List Nat} {j : Nat} (h : isOwn (wipeE ρ vs)[j]? = true) : isOwn ρ[j]? = true ∧ j ∉ vs := by
  by_cases hj : j ∈ vs
  · cases e : (wipeE ρ vs)[j]? with
    | none => rw [e] at h; cases h
    | some s => have := wipeE_in hj e; subst this; rw [e] at h; cases h
  · rw [wipeE_out hj] at h; exact ⟨h, hj⟩
theorem backE_len : ∀ {vs : List Nat} {ρ ρ' : En}, (backE ρ ρ' vs).length = ρ'.length
  | [], _, _ => rfl
  | v :: vs, ρ, ρ' => by
    unfold backE
    split
    · rw [List.length_set, backE_len]
    · exact backE_len
theorem backE_out {ρ ρ' : En} : ∀ {vs : List Nat} {j : Nat}, j ∉ vs → (backE ρ ρ' vs)[j]? = ρ'[j]?
  | [], _, _ => rfl
  | v :: vs, j, h => by
    unfold backE
    have ih := backE_out (ρ := ρ) (ρ' := ρ') (vs := vs) (j := j) (fun z => h (List.mem_cons_of_mem _ z))
    split
    · rw [set_ne (fun z => h (by rw [z]; exact List.mem_cons_self)), ih]
    · exact ih
theorem backE_in {ρ ρ' : En} (hl : ρ.length = ρ'.length) : ∀ {vs : List Nat} {j : Nat}, j ∈ vs → (backE ρ ρ' vs)[j]? = ρ[j]?
  | v :: vs, j, h => by
    unfold backE
    by_cases hj : j = v
    · subst hj
      cases e : ρ[j]? with
      | none =>
        simp only
        have : ρ'.length ≤ j := by rw [← hl]; exact List.getElem?_eq_none_iff.mp e
        exact List.getElem?_eq_none (by rw [backE_len]; exact this)
      | some s =>
        simp only
        exact List.getElem?_set_self (by rw [backE_len, ← hl]; exact (List.getElem?_eq_some_iff.mp e).1)
    · have ih := backE_in hl ((List.mem_cons.mp h).resolve_left hj)
      split
      · rw [set_ne hj, ih]
      · exact ih
theorem Rel.wipe (q : Rel F Hf H σ ρ) (vs : List Nat) : Rel F Hf H (L2.wipe σ vs) (wipeE ρ vs) := by
  refine ⟨by rw [wipe_length, wipeE_len]; exact q.len, q.sub, q.base, q.keep, q.iok, fun j s e => ?_, fun j k b hjk hj hk ej ek => ?_⟩
  · by_cases hj : j ∈ vs
    · have := wipeE_in hj e; subst this; trivial
    · rw [wipeE_out hj] at e
      rw [wipe_out hj]; exact q.slot j s e
  · obtain ⟨oj, nj⟩ := wipeE_own hj
    obtain ⟨ok, nk⟩ := wipeE_own hk
    rw [wipe_out nj] at ej
    rw [wipe_out nk] at ek
    exact q.dist j k b hjk oj ok ej ek
/-- an object of nobody's is changed -/
theorem Rel.writeFree {a : Addr} {o : HO} (q : Rel F Hf H σ ρ) (h2 : Hf a = none) (h3 : F.H0 a = none) (no : ∀ i : Nat, isOwn ρ[i]? = true → σ[i]? ≠ some (some (V.ref a))) : Rel F Hf (upd H a o) σ ρ := by
  refine ⟨q.len, le_upd2 q.sub h2, q.base, fun b u e1 e2 e3 => ?_, fun i b e => ?_, fun i s e => ?_, q.dist⟩
  · obtain ⟨k1, k2⟩ := q.keep b u e1 e2 e3
    have ne : b ≠ a := by rintro rfl; rw [h3] at e1; cases e1
    rw [upd_ne ne]; exact ⟨k1, k2⟩
  · obtain ⟨k1, k2, k3⟩ := q.iok i b e
    have ne : b ≠ a := by rintro rfl; exact k3 h3
    rw [upd_ne ne]; exact ⟨k1, k2, k3⟩
  · refine (q.slot i s e).mono (Le.refl _) fun b vs ds hs hx g1 g2 => ?_
    have ne : b ≠ a := by
      rintro rfl
      exact no i (by rw [e]; exact isOwn_of hs) hx
    rw [upd_ne ne]; exact ⟨g1, g2⟩
/-- behind a turn of a comprehension: the block's own names are again what they were -/
theorem Rel.back {vs : List Nat} {σ2 : St} {ρ6 : En} {Hf6 H6 : Hp} (q1 : Rel F Hf1 H1 σ ρ1) (n1 : ∀ j ∈ vs, isOwn ρ1[j]? = false) (q : Rel F Hf6 H6 σ2 ρ6) (l : Le Hf1 Hf6) (hl : σ2.length = σ.length) (hσ : ∀ j : Nat, j ∉ vs → σ2[j]? = σ[j]?) : Rel F Hf6 H6 σ (backE ρ1 ρ6 vs) := by
  have hlen : ρ1.length = ρ6.length := by rw [← q1.len, ← q.len, hl]
  have ow : ∀ j : Nat, isOwn (backE ρ1 ρ6 vs)[j]? = true → isOwn ρ6[j]? = true ∧ j ∉ vs := fun j h => by
    by_cases hj : j ∈ vs
    · rw [backE_in hlen hj, n1 j hj] at h; cases h
    · rw [backE_out hj] at h; exact ⟨h, hj⟩
  refine ⟨by rw [backE_len, ← q.len, hl], q.sub, q.base, q.keep, q.iok, fun j s e => ?_, fun j k b hjk hj hk ej ek => ?_⟩
  · by_cases hj : j ∈ vs
    · rw [backE_in hlen hj] at e
      have := q1.slot j s e
      have no := n1 j hj
      rw [e] at no
      cases s with
      | no => trivial
      | v d => obtain ⟨w, e1, r⟩ := this; exact ⟨w, e1, Rep.le l r⟩
      | ow _ => cases no
      | io _ => cases no
    · rw [backE_out hj] at e
      rw [← hσ j hj]; exact q.slot j s e
  · obtain ⟨oj, nj⟩ := ow j hj
    obtain ⟨ok, nk⟩ := ow k hk
    rw [← hσ j nj] at ej
    rw [← hσ k nk] at ek
    exact q.dist j k b hjk oj ok ej ek
end
end RK
namespace RK
open PySem L2
section
variable {X : Cx} {F : Fc} {C : Ct} {T : Tab} {sc : Scope} {W : WX} {E : Xn → En → Prop}
theorem PE.impL {X : Cx} {e : Expr} {t t' : TE} (h : PE X e t) (i : ∀ σ H Q, σ.length = X.N.length → t' σ H Q → t σ H Q) : PE X e t' := ⟨fun pins s σ H Q I q => h.run pins s σ H Q I (i σ H Q I.len q)⟩
/-- in the block of a comprehension nothing is let out -/
theorem Gd.blk (G : Gd X F C T sc W E) (s : Shared) (H : Hp) (scope : Scope) (cl : List (Str × Addr)) (Cl : Addr) (fp : List Addr) :
    Gd (X.blk s H scope (compEnvC scope cl Cl X.env) fp) F C T (relS scope sc) (fun _ _ _ _ => False) (fun _ _ => False) where
  K := G.K
  calm := G.calm
  N := G.N
  nd := G.nd
  sc := by rw [← G.sc]; rfl
  units := G.units
  mono := G.mono
  fns := fun f hf => ⟨(G.fns f hf).ex⟩
  glb := G.glb
  blt := G.blt
  tk := fun u s' h => by
    obtain ⟨_, _, _, _, _, _, _, _, _, _, _, _, _, _, _, _, z⟩ := h
    exact z.elim
  we := fun _ _ _ _ _ _ _ _ z _ => z.elim
theorem TgOk.blk (G : Gd X F C T sc W E) (s : Shared) (H : Hp) (scope : Scope) (cl : List (Str × Addr)) (Cl : Addr) (fp : List Addr) : TgOk (X.blk s H scope (compEnvC scope cl Cl X.env) fp) T (locB scope) where
  N := G.N
  nd := G.nd
  loc := fun x h => by
    rcases loc_of h with e | e
    · exact .inl (lookup_relS_keep (by decide) e)
    · exact .inr (lookup_relS_keep (by decide) e)
  fn := fun x h => by
    rcases loc_of h with e | e
    · exact .inr (lookup_relS_keep (by decide) e)
    · refine .inl ?_
      show (scope.names.lookup x == some NameKind.cell) = true
      rw [e]; rfl
theorem mG_in {ok : Str → Bool} {own : List Nat} {t : Tg} {e : Expr} (h : mG T ok (some own) t e = true) : ∀ i ∈ tgI t, i ∈ own ∧ i < T.N.length := by
  have one : ∀ {i : Nat} {e : Expr}, mGn T ok (some own) i e = true → i ∈ own ∧ i < T.N.length := fun {i e} h => by
    obtain ⟨x, p, rfl, h1, _, h3⟩ := mGn_inv h
    exact ⟨h3 _ rfl, (List.getElem?_eq_some_iff.mp h1).1⟩
  cases t with
  | n i =>
    intro j hj
    simp [tgI] at hj
    subst hj
    exact one h
  | t l =>
    cases e <;> try (simp [mG] at h; done)
    rename_i es _ _
    have h : mGl T ok (some own) l es = true := h
    clear one
    show ∀ i ∈ l, _
    induction l generalizing es with
    | nil => intro i hi; cases hi
    | cons j js ih =>
      intro i hi
      cases es with
      | nil => simp [mGl] at h
      | cons e es =>
        simp only [mGl, Bool.and_eq_true] at h
        rcases List.mem_cons.mp hi with rfl | hi
        · obtain ⟨x, p, rfl, h1, _, h3⟩ := mGn_inv h.1
          exact ⟨h3 _ rfl, (List.getElem?_eq_some_iff.mp h1).1⟩
        · exact ih es h.2 h.2 i hi
/-- the state of a comprehension's loop: i items taken, accD made, at D -/
structure LcS (F : Fc) (σ : St) (ρ ρ1 : En) (Hf H Hf1 : Hp) (own : List Nat) (Dp : Addr) (GG : Hp → Hp → Prop) (ρ2 : En) (Hf2 Hc : Hp) (acc : List V) (accD : List D) : Prop where
  rel : Rel F Hf2 Hc σ ρ2
  st : Step σ ρ ρ2 Hf H Hf2 Hc
  le : Le Hf1 Hf2
  g : GG Hf2 Hc
  at_ : Hc Dp = some (.lst acc)
  no : Hf2 Dp = none
  rs : Reps F.K F.fa Hf2 acc accD
  ow : ∀ j ∈ own, isOwn ρ2[j]? = false
/-- a comprehension's reading, by what the small language says -/
theorem comp_read (G : Gd X F C T sc W E) {xe : Ex} {tg : Tg} {it : It'} {ifs : List Ex} {own : List (Str × Nat)} {tge : Expr} {scope : Scope}
    (hg : mG T (locB scope) (some (own.map (·.2))) tg tge = true) {σ : St} {H : Hp} {Q : VK} (hσl : σ.length = X.N.length) (h : lE F (wE C (.comp xe tg it ifs own) E) σ H Q) :
    tLc (lI F (wI C it E)) (gT X.K tg) (lT F (wTs C ifs fun _ _ => False)) (lE F (wE C xe fun _ _ => False)) (own.map (·.2)) σ H Q := by
  obtain ⟨Hf, ρ, q, w⟩ := h
  unfold wE at w
  obtain ⟨hown, w⟩ := w
  refine ⟨Hf, ρ, q, wI_mono G.mono it E _ _ _ (fun items ρ1 k Hf1 H1 J GG S1 q1 I g1 Dp hD => ?_) w⟩
  let vs := own.map (·.2)
  have hown' : ∀ j ∈ vs, isOwn ρ[j]? = false := fun j hj => by
    obtain ⟨p, hp, rfl⟩ := List.mem_map.mp hj
    exact hown p hp
  have hown1 : ∀ j ∈ vs, isOwn ρ1[j]? = false := fun j hj => by
    cases e : isOwn ρ1[j]? with
    | false => rfl
    | true => have := S1.own j e; rw [hown' j hj] at this; cases this
  have hDH : H Dp = none := S1.dom Dp hD
  have hD0 : F.H0 Dp = none := q.dom0 hDH
  have tin := mG_in hg
  let Qd : List D → En → Prop := fun ds ρ7 => ∀ v Hf' H', Step σ ρ ρ7 Hf H Hf' H' → Rel F Hf' H' σ ρ7 → RepR F H Hf' H' σ ρ7 v (.f ds) → Q v H'
  let step : D → En → (Option D → En → Prop) → Prop := fun d ρ2 k => asgT tg (.v d) (wipeE ρ2 vs) fun ρ3 => wTs C ifs (fun _ _ => False) ρ3 fun c ρ4 =>
        if c = true then wE C xe (fun _ _ => False) ρ4 fun r ρ5 => keepR ρ5 r fun x ρ6 => k (some x) (backE ρ1 ρ6 vs) else k none (backE ρ1 ρ4 vs)
  have k0 : lcL step items [] ρ1 Qd := k
  -- the slots of the target are slots of the frame, if the frame's slots are T's names
  have hT : T.N.length = σ.length := by rw [hσl, G.N]
  have tlen : ∀ i ∈ tgI tg, i < σ.length := fun i hi => by rw [← hT]; exact (tin i hi).2
  have tvs : ∀ i ∈ tgI tg, i ∈ vs := fun i hi => (tin i hi).1
  refine ⟨fun i m Hc => m = items.length - i ∧ i ≤ items.length ∧ ∃ ρ2 Hf2 acc accD, LcS F σ ρ ρ1 Hf H Hf1 vs Dp GG ρ2 Hf2 Hc acc accD ∧ lcL step (items.drop i) accD ρ2 Qd, ⟨_, rfl, Nat.zero_le _, ρ1, Hf1, [], [], ?_, k0⟩, ?_⟩
  · exact ⟨q1.newO hD, S1.newO hD, Le.refl _, I.mono _ _ _ _ g1 (Le.refl _) (le_upd2 q1.sub (q1.none_f hD)), upd_same, q1.none_f hD, .nil, hown1⟩
  rintro i m Hc ⟨rfl, hil, ρ2, Hf2, acc, accD, L, kk⟩
  have noD : ∀ j : Nat, isOwn ρ2[j]? = true → σ[j]? ≠ some (some (V.ref Dp)) := fun j hj => RepR.notOwn (ds := []) q L.st hDH j hj
  by_cases hlt : i < items.length
  case neg =>
    have hie : i = items.length := by omega
    subst hie
    refine .inl ⟨I.stop _ Hf2 Hc L.g (Nat.le_refl _), ?_⟩
    rw [List.drop_length] at kk
    exact kk _ _ _ L.st L.rel ⟨Dp, acc, rfl, L.at_, L.no, L.rs, hDH⟩
  refine .inr ⟨I.go i Hf2 Hc L.g hlt, fun Hn => ∃ ρ2 Hf2 acc accD, LcS F σ ρ ρ1 Hf H Hf1 vs Dp GG ρ2 Hf2 Hn acc accD ∧ lcL step (items.drop (i + 1)) accD ρ2 Qd, fun H' h => ⟨_, by omega, rfl, hlt, h⟩, fun x Hy hy => ?_⟩
  obtain ⟨d, hd, hx⟩ := I.yld i Hf2 Hc x Hy hlt L.g L.rel.sub hy
  have hdrop : items.drop i = d :: items.drop (i + 1) := by
    obtain ⟨h1, h2⟩ := List.getElem?_eq_some_iff.mp hd
    rw [← h2]
    exact List.drop_eq_getElem_cons h1
  rw [hdrop] at kk
  -- the item as data that stands
  obtain ⟨Hf3, L3, r3, kk⟩ : ∃ Hf3, LcS F σ ρ ρ1 Hf H Hf1 vs Dp GG ρ2 Hf3 Hy acc accD ∧ Rep F.K F.fa Hf3 x d ∧ lcL step (d :: items.drop (i + 1)) accD ρ2 Qd := by
    rcases hx with ⟨rfl, r⟩ | ⟨p, us, es, rfl, rfl, hp, rfl, r⟩
    · exact ⟨Hf2, L, r, kk⟩
    · have lf := le_upd (o := HO.tup us) (L.rel.none_f hp)
      have ne : Dp ≠ p := ne_of_none L.at_ hp
      refine ⟨upd Hf2 p (.tup us), ⟨L.rel.laid hp, L.st.laid L.rel hp, L.le.trans lf, I.mono _ _ _ _ L.g lf (L.rel.laid hp).sub, by rw [upd_ne ne]; exact L.at_, by rw [upd_ne ne]; exact L.no, Reps.le lf L.rs, L.ow⟩, .tup (.inl (.inl upd_same)) (Reps.le lf r), kk⟩
  have kk : step d ρ2 fun o ρ' => (match o with
    | some x => accD.length < sizeLine ∧ lcL step (items.drop (i + 1)) (accD ++ [x]) ρ' Qd
    | none => lcL step (items.drop (i + 1)) accD ρ' Qd) := kk
  have qw := L3.rel.wipe vs
  refine asgT_v (X := X) G.K qw (fun j hj => by rw [wipe_length]; exact tlen j hj) r3 kk fun ρ3 us k3 hus q3 c3 o3 => ?_
  have hσ2 : ∀ j : Nat, j ∉ vs → (setAll (wipe σ vs) (tgI tg) us)[j]? = σ[j]? := fun j hj => by
    rw [setAll_ne (fun z => hj (tvs j z)), wipe_out hj]
  have hl2 : (setAll (wipe σ vs) (tgI tg) us).length = σ.length := by rw [setAll_len, wipe_length]
  have ow3 : ∀ j : Nat, isOwn ρ3[j]? = true → isOwn ρ2[j]? = true ∧ j ∉ vs := fun j hj => by
    obtain ⟨a, _⟩ := o3 j hj
    exact wipeE_own a
  have noD3 : ∀ j : Nat, isOwn ρ3[j]? = true → (setAll (wipe σ vs) (tgI tg) us)[j]? ≠ some (some (V.ref Dp)) := fun j hj => by
    obtain ⟨a, b⟩ := ow3 j hj
    rw [hσ2 j b]; exact noD j a
  refine ⟨wipe_eq hl2 hσ2, Hf3, ρ3, q3, wTs_mono G.mono ifs _ _ _ _ (fun c ρ4 k4 Hf4 H4 S4 q4 => ?_) k3⟩
  -- how a turn ends, from the block's state back to the loop's
  have fin : ∀ (ρ6 : En) (Hf6 H6 : Hp), Step (setAll (wipe σ vs) (tgI tg) us) ρ3 ρ6 Hf3 Hy Hf6 H6 → Rel F Hf6 H6 (setAll (wipe σ vs) (tgI tg) us) ρ6 → LcS F σ ρ ρ1 Hf H Hf1 vs Dp GG (backE ρ1 ρ6 vs) Hf6 H6 acc accD := by
    intro ρ6 Hf6 H6 S6 q6
    obtain ⟨d1, d2⟩ := S6.out Dp _ L3.at_ L3.no noD3
    have hlen : ρ1.length = ρ6.length := by rw [← q1.len, ← q6.len, hl2]
    have ow6 : ∀ j : Nat, isOwn (backE ρ1 ρ6 vs)[j]? = true → isOwn ρ2[j]? = true ∧ j ∉ vs := fun j hj => by
      by_cases hv : j ∈ vs
      · rw [backE_in hlen hv, hown1 j hv] at hj; cases hj
      · rw [backE_out hv] at hj
        exact ⟨(ow3 j (S6.own j hj)).1, hv⟩
    refine ⟨Rel.back q1 hown1 q6 (L3.le.trans S6.le) hl2 hσ2, ⟨L3.st.le.trans S6.le, fun b o e1 e2 e3 => ?_, fun j hj => L3.st.own j (ow6 j hj).1, fun j s e n => ?_, fun a e => L3.st.dom a (S6.dom a e)⟩, L3.le.trans S6.le, I.mono _ _ _ _ L3.g S6.le q6.sub, d1, d2, Reps.le S6.le L3.rs, fun j hj => ?_⟩
    · obtain ⟨m1, m2⟩ := L3.st.out b o e1 e2 e3
      refine S6.out b o m1 m2 fun j hj => ?_
      obtain ⟨a, nv⟩ := ow3 j hj
      rw [hσ2 j nv]
      exact e3 j (L3.st.own j a)
    · by_cases hv : j ∈ vs
      · obtain ⟨s', h1, h2⟩ := S1.live j s e n
        exact ⟨s', by rw [backE_in hlen hv]; exact h1, h2⟩
      · obtain ⟨s', h1, h2⟩ := L3.st.live j s e n
        obtain ⟨s'', h3, h4⟩ := S6.live j s' (by rw [c3 j (fun z => hv (tvs j z)), wipeE_out hv]; exact h1) h2
        exact ⟨s'', by rw [backE_out hv]; exact h3, h4⟩
    · rw [backE_in hlen hj]; exact hown1 j hj
  cases c with
  | false => exact ⟨_, _, _, _, fin ρ4 Hf4 H4 S4 q4, k4⟩
  | true =>
    refine ⟨Hf4, ρ4, q4, wE_mono G.mono xe _ _ _ _ (fun r ρ5 k5 y Hf5 H5 S5 q5 rr => ?_) k4⟩
    obtain ⟨d6, ρ6, Hf6, k6, q6, r6, S6, _, _⟩ := keepR_ok q4 S5 q5 rr k5
    have Lf := fin ρ6 Hf6 H5 (S4.trans S6) q6
    obtain ⟨hz, k6⟩ := k6
    have noD6 : ∀ j : Nat, isOwn (backE ρ1 ρ6 vs)[j]? = true → σ[j]? ≠ some (some (V.ref Dp)) := fun j hj => RepR.notOwn (ds := []) q Lf.st hDH j hj
    refine ⟨acc, Lf.at_, by rw [Lf.rs.length]; exact hz, _, Hf6, _, _, ⟨Lf.rel.writeFree Lf.no hD0 noD6, ⟨Lf.st.le, fun b o e1 e2 e3 => ?_, Lf.st.own, Lf.st.live, fun a e => ?_⟩, Lf.le, I.mono _ _ _ _ Lf.g (Le.refl _) (le_upd2 q6.sub Lf.no), upd_same, Lf.no, Lf.rs.append (.cons r6 .nil), Lf.ow⟩, k6⟩
    · obtain ⟨m1, m2⟩ := Lf.st.out b o e1 e2 e3
      have ne : b ≠ Dp := ne_of_none e1 hDH
      rw [upd_ne ne]; exact ⟨m1, m2⟩
    · by_cases ha : a = Dp
      · subst ha; exact hDH
      · rw [upd_ne ha] at e; exact Lf.st.dom a e
theorem n_comp (G : Gd X F C T sc W E) {xe : Ex} {tg : Tg} {it : It'} {ifs : List Ex} {own : List (Str × Nat)} {elt tge iter : Expr} {fs : List Expr} {scope : Scope} {pos : Pos}
    (hok : blkC T.N sc scope own = true) (hns : noSet iter = true) (hg : mG T (locB scope) (some (own.map (·.2))) tg tge = true)
    (hi : PI X tge iter (lI F (wI C it E)))
    (ht : ∀ (s : Shared) (H : Hp) (Cl : Addr) (cl : List (Str × Addr)) (fp : List Addr), PTs (X.blk s H scope (compEnvC scope cl Cl X.env) fp) fs (lT F (wTs C ifs fun _ _ => False)))
    (he : ∀ (s : Shared) (H : Hp) (Cl : Addr) (cl : List (Str × Addr)) (fp : List Addr), PE (X.blk s H scope (compEnvC scope cl Cl X.env) fp) elt (lE F (wE C xe fun _ _ => False))) :
    PE X (.ListComp elt [⟨tge, iter, fs, 0⟩] scope pos) (lE F (wE C (.comp xe tg it ifs own) E)) := by
  have hbo : BlkOk X.N X.env.scope scope own := by rw [G.N, G.sc]; exact blkOk_by hok
  have hfs : ∀ x, foldedSetIterable iter X.env x = pure x := by intro x; cases iter <;> first | rfl | cases hns
  exact PE.impL (pe_lc (g := gT X.K tg) G.calm (by rw [G.N]; exact G.nd) hi hbo (fun s H Cl cl fp => pg_t (TgOk.blk G s H scope cl Cl fp) G.calm hg) ht he hfs) fun σ H Q hσl h => comp_read G hg hσl h
/-- name = [..] where the name is a local that the block does not use -/
theorem n_setComp (G : Gd X F C T sc W E) {xe : Ex} {tg : Tg} {it : It'} {ifs : List Ex} {own : List (Str × Nat)} {elt tge iter : Expr} {fs : List Expr} {scope : Scope} {pos py spos : Pos} {i : Nat} {y : Str}
    (hok : blkC T.N sc scope own = true) (hns : noSet iter = true) (hg : mG T (locB scope) (some (own.map (·.2))) tg tge = true)
    (hi : PI X tge iter (lI F (wI C it E)))
    (ht : ∀ (s : Shared) (H : Hp) (Cl : Addr) (cl : List (Str × Addr)) (fp : List Addr), PTs (X.blk s H scope (compEnvC scope cl Cl X.env) fp) fs (lT F (wTs C ifs fun _ _ => False)))
    (he : ∀ (s : Shared) (H : Hp) (Cl : Addr) (cl : List (Str × Addr)) (fp : List Addr), PE (X.blk s H scope (compEnvC scope cl Cl X.env) fp) elt (lE F (wE C xe fun _ _ => False)))
    (hy : T.N[i]? = some y) (hyl : sc.names.lookup y = some .local) (hsw : swapsWith (.ListComp elt [⟨tge, iter, fs, 0⟩] scope pos) (some (.Name y py)) spos.line X.env = pure true) :
    ∃ t, PS X (.Assign [.Name y py] (.ListComp elt [⟨tge, iter, fs, 0⟩] scope pos) spos) (tAsg t (gName i)) ∧ ∀ σ H Q, σ.length = X.N.length → lE F (wE C (.comp xe tg it ifs own) E) σ H Q → t σ H Q := by
  have hbo : BlkOk X.N X.env.scope scope own := by rw [G.N, G.sc]; exact blkOk_by hok
  have hfs : ∀ x, foldedSetIterable iter X.env x = pure x := by intro x; cases iter <;> first | rfl | cases hns
  exact ⟨_, ps_setLc (g := gT X.K tg) G.calm (by rw [G.N]; exact G.nd) (by rw [G.N]; exact hy) (by rw [G.sc]; exact hyl) hsw hi hbo (fun s H Cl cl fp => pg_t (TgOk.blk G s H scope cl Cl fp) G.calm hg) ht he hfs, fun σ H Q hσl h => comp_read G hg hσl h⟩
end
end RK
namespace RK
open PySem L2
section
variable {F : Fc} {C : Ct} {T : Tab}
theorem pts_nil' {X : Cx} {E : Xn → En → Prop} : PTs X [] (lT F (wTs C [] E)) :=
  ⟨fun pins s σ H Q I h => by
    obtain ⟨Hf, ρ, q, w⟩ := h
    unfold wTs at w
    exact pts_nil.run pins s σ H Q I (w _ _ .refl q)⟩
theorem pts_one' {X : Cx} {sc : Scope} {W : WX} {E : Xn → En → Prop} (G : Gd X F C T sc W E) {c : Ex} {e : Expr} (h : PT X e (lT F (wT C c E))) : PTs X [e] (lT F (wTs C [c] E)) :=
  ⟨fun pins s σ H Q I k => by
    obtain ⟨Hf, ρ, q, w⟩ := k
    unfold wTs at w
    refine (pts_one h).run pins s σ H Q I ⟨Hf, ρ, q, wT_mono G.mono c E _ _ _ (fun b ρ1 k1 => ?_) w⟩
    cases b with
    | true => unfold wTs at k1; exact k1
    | false => exact k1⟩
/-- a value, as a test by its truth -/
theorem dft {X : Cx} {sc : Scope} {W : WX} {E : Xn → En → Prop} (G : Gd X F C T sc W E) {x : Ex} {e : Expr} (h : PE X e (lE F (wE C x E))) (hp : ∀ whole, isTrue e X.env whole = (do let v ← whole; standAt e.pos; holding [v] (truthy v)))
    (hw : ∀ ρ Q, wT C x E ρ Q → wE C x E ρ fun r ρ1 => (match truD (get ρ1 r) with | some k => Q k ρ1 | none => False)) (hb : ∀ op es p, e ≠ .BoolOp op es p) : PE X e (lE F (wE C x E)) ∧ PT X e (lT F (wT C x E)) ∧ ∀ op es p, e = .BoolOp op es p → PW X e (lT F (wT C x E)) :=
  ⟨h, tst_val G h hp hw, fun op es p z => absurd z (hb op es p)⟩
theorem ifx {X : Cx} {E : Xn → En → Prop} {c a b : Ex} {e : Expr} : PT X e (lT F (wT C (.ite c a b) E)) := ⟨fun pins s σ H Q I h => by
  obtain ⟨Hf, ρ, q, w⟩ := h
  unfold wT at w
  exact w.elim⟩
theorem mO_two {xs : List Ex} {sc : Scope} {e : Option Expr} (h : mO T xs sc e = true) : xs = [] ∨ ∃ x, xs = [x] := by
  match xs, h with
  | [], _ => exact .inl rfl
  | [x], _ => exact .inr ⟨x, rfl⟩
  | _ :: _ :: _, h => simp [mO] at h
theorem revOf_some {e x : Expr} (h : revOf e = some x) : ∃ k p1 p2 p3 pos, e = .Subscript x (.Slice none none (some (.UnaryOp .USub (.Constant (.int 1) k p1) p2)) p3) pos := by
  unfold revOf at h
  split at h
  · rename_i x' o c k p1 p2 p3 pos
    split at h
    · rename_i hb
      cases h
      rw [Bool.and_eq_true, decide_eq_true_eq] at hb
      obtain ⟨rfl, hc⟩ := hb
      cases c <;> first | (cases hc; done) | skip
      have e1 := beq_iff_eq.mp hc
      subst e1
      exact ⟨_, _, _, _, _, rfl⟩
    · cases h
  · cases h
theorem rgvOf_some {t : Bool} {sc : Scope} {e : Expr} {xs : List Expr} (h : rgvOf t sc e = some xs) : ∃ p p2 pos pos2, e = .Call (.Name (if t = true then ("tuple" : Str) else "list") p) [.Call (.Name "range" p2) xs [] pos2] [] pos ∧ glB sc (if t = true then ("tuple" : Str) else "list") = true ∧ glB sc "range" = true := by
  unfold rgvOf at h
  split at h
  · split at h
    · rename_i hb
      cases h
      simp only [Bool.and_eq_true, beq_iff_eq] at hb
      obtain ⟨⟨⟨rfl, h1⟩, rfl⟩, h2⟩ := hb
      exact ⟨_, _, _, _, rfl, h1, h2⟩
    · cases h
  · cases h
mutual
theorem sE : ∀ (x : Ex) {X : Cx} {sc : Scope} {W : WX} {E : Xn → En → Prop}, Gd X F C T sc W E → ∀ {e : Expr}, mE T x sc e = true → PE X e (lE F (wE C x E)) ∧ PT X e (lT F (wT C x E)) ∧ ∀ op es p, e = .BoolOp op es p → PW X e (lT F (wT C x E))
  | .v i, _, _, _, _, G, e, h => by
    cases e <;> try (simp [mE] at h; done)
    simp only [mE, Bool.and_eq_true, beq_iff_eq] at h
    exact dft G (n_v G h.1.1 h.1.2 h.2) (fun _ => rfl) (fun _ _ z => by unfold wT at z; exact z) (fun _ _ _ z => nomatch z)
  | .c d, _, _, _, _, G, e, h => by
    cases e <;> try (simp [mE] at h; done)
    exact dft G (n_c (by simpa only [mE] using h)) (fun _ => rfl) (fun _ _ z => by unfold wT at z; exact z) (fun _ _ _ z => nomatch z)
  | .g x, _, _, _, _, G, e, h => by
    cases e <;> try (simp [mE] at h; done)
    simp only [mE, Bool.and_eq_true, beq_iff_eq] at h
    obtain ⟨⟨rfl, h1⟩, h2⟩ := h
    exact dft G (n_g G h1 h2) (fun _ => rfl) (fun _ _ z => by unfold wT at z; exact z) (fun _ _ _ z => nomatch z)
  | .bin op a b, _, _, _, _, G, e, h => by
    cases e <;> try (simp [mE] at h; done)
    simp only [mE, Bool.and_eq_true, decide_eq_true_eq] at h
    obtain ⟨⟨rfl, h1⟩, h2⟩ := h
    exact dft G (n_bin G (sE a G h1).1 (sE b G h2).1) (fun _ => rfl) (fun _ _ z => by unfold wT at z; exact z) (fun _ _ _ z => nomatch z)
  | .neg a, _, _, _, _, G, e, h => by
    cases e <;> try (simp [mE] at h; done)
    simp only [mE, Bool.and_eq_true, decide_eq_true_eq] at h
    obtain ⟨rfl, h1⟩ := h
    exact dft G (n_neg G (sE a G h1).1) (fun _ => rfl) (fun _ _ z => by unfold wT at z; exact z) (fun _ _ _ z => nomatch z)
  | .cmp op a b, _, _, _, _, G, e, h => by
    cases e <;> try (simp [mE] at h; done)
    rename_i l ops rs pos
    match ops, rs, h with
    | [o], [r], h =>
      simp only [mE, Bool.and_eq_true, decide_eq_true_eq] at h
      obtain ⟨⟨⟨rfl, h1⟩, h2⟩, h3⟩ := h
      exact ⟨n_cmp G h3 (sE a G h1).1 (sE b G h2).1, tst_cmp G h3 (sE a G h1).1 (sE b G h2).1, fun _ _ _ z => nomatch z⟩
    | [], _, h => simp [mE] at h
    | [_], [], h => simp [mE] at h
    | [_], _ :: _ :: _, h => simp [mE] at h
    | _ :: _ :: _, _, h => simp [mE] at h
  | .cmp2 op op' a b c, _, _, _, _, G, e, h => by
    cases e <;> try (simp [mE] at h; done)
    rename_i l ops rs pos
    match ops, rs, h with
    | [o, o'], [r, r'], h =>
      simp only [mE, Bool.and_eq_true, decide_eq_true_eq] at h
      obtain ⟨⟨⟨⟨⟨⟨rfl, rfl⟩, h1⟩, h2⟩, h3⟩, h4⟩, h5⟩ := h
      exact ⟨n_cmp2 G h5 (sE a G h1).1 (sE b G h2).1 (sE c G h3).1, tst_cmp2 G h5 (sE a G h1).1 (sE b G h2).1 (sE c G h3).1, fun _ _ _ z => nomatch z⟩
    | [], _, h => simp [mE] at h
    | [_], _, h => simp [mE] at h
    | [_, _], [], h => simp [mE] at h
    | [_, _], [_], h => simp [mE] at h
    | [_, _], _ :: _ :: _ :: _, h => simp [mE] at h
    | _ :: _ :: _ :: _, _, h => simp [mE] at h
  | .and_ a b, _, _, _, _, G, e, h => by
    cases e <;> try (simp [mE] at h; done)
    rename_i o es pos
    cases o <;> try (simp [mE] at h; done)
    match es, h with
    | e1 :: e2 :: [], h =>
      simp only [mE, Bool.and_eq_true] at h
      have w := tst_and (pos := pos) G (sE a G h.1).2.1 (pw_and1 (sE b G h.2).2.1)
      exact ⟨n_and G (sE a G h.1).1 (pe_one (sE b G h.2).1), w.pt, fun _ _ _ _ => w⟩
    | e1 :: e2 :: e3 :: rest, h =>
      simp only [mE, Bool.and_eq_true] at h
      have w := tst_and (pos := pos) G (sE a G h.1).2.1 ((sE b G h.2).2.2 _ _ _ rfl)
      exact ⟨n_and G (sE a G h.1).1 (sE b G h.2).1, w.pt, fun _ _ _ _ => w⟩
    | [], h => simp [mE] at h
    | [_], h => simp [mE] at h
  | .or_ a b, _, _, _, _, G, e, h => by
    cases e <;> try (simp [mE] at h; done)
    rename_i o es pos
    cases o <;> try (simp [mE] at h; done)
    match es, h with
    | e1 :: e2 :: [], h =>
      simp only [mE, Bool.and_eq_true] at h
      have w := tst_or (pos := pos) G (sE a G h.1).2.1 (pw_or1 (sE b G h.2).2.1)
      exact ⟨n_or G (sE a G h.1).1 (pe_one (sE b G h.2).1), w.pt, fun _ _ _ _ => w⟩
    | e1 :: e2 :: e3 :: rest, h =>
      simp only [mE, Bool.and_eq_true] at h
      have w := tst_or (pos := pos) G (sE a G h.1).2.1 ((sE b G h.2).2.2 _ _ _ rfl)
      exact ⟨n_or G (sE a G h.1).1 (sE b G h.2).1, w.pt, fun _ _ _ _ => w⟩
    | [], h => simp [mE] at h
    | [_], h => simp [mE] at h
  | .not_ a, _, _, _, _, G, e, h => by
    cases e <;> try (simp [mE] at h; done)
    simp only [mE, Bool.and_eq_true, decide_eq_true_eq] at h
    obtain ⟨rfl, h1⟩ := h
    exact ⟨n_not G (sE a G h1).1, tst_not G (sE a G h1).2.1, fun _ _ _ z => nomatch z⟩
  | .ite c a b, _, _, _, _, G, e, h => by
    cases e <;> try (simp [mE] at h; done)
    simp only [mE, Bool.and_eq_true] at h
    exact ⟨n_ite G (sE c G h.1.1).2.1 (sE a G h.1.2).1 (sE b G h.2).1, ifx, fun _ _ _ z => nomatch z⟩
  | .tup es, _, _, _, _, G, e, h => by
    cases e <;> try (simp [mE] at h; done)
    exact dft G (n_tup G (sRs es G (by simpa only [mE] using h))) (fun _ => rfl) (fun _ _ z => by unfold wT at z; exact z) (fun _ _ _ z => nomatch z)
  | .lst es, _, _, _, _, G, e, h => by
    cases e <;> try (simp [mE] at h; done)
    exact dft G (n_lst G (sRs es G (by simpa only [mE] using h))) (fun _ => rfl) (fun _ _ z => by unfold wT at z; exact z) (fun _ _ _ z => nomatch z)
  | .call f es, _, _, _, _, G, e, h => by
    cases e <;> try (simp [mE] at h; done)
    rename_i fe xs ks pos
    cases fe <;> try (simp [mE] at h; done)
    cases ks <;> try (simp [mE] at h; done)
    simp only [mE, Bool.and_eq_true, decide_eq_true_eq, beq_iff_eq] at h
    obtain ⟨⟨⟨⟨⟨h1, rfl⟩, h2⟩, h3⟩, h4⟩, h5⟩ := h
    cases xs with
    | nil => simp at h4
    | cons e0 es0 => exact dft G (n_call G h1 h2 h3 h5 (sRs es G h5)) (fun _ => rfl) (fun _ _ z => by unfold wT at z; exact z) (fun _ _ _ z => nomatch z)
  | .bi b es, _, _, _, _, G, e, h => by
    cases e <;> try (simp [mE] at h; done)
    rename_i fe xs ks pos
    cases fe <;> try (simp [mE] at h; done)
    cases ks <;> try (simp [mE] at h; done)
    simp only [mE, Bool.and_eq_true, beq_iff_eq] at h
    obtain ⟨⟨⟨rfl, h2⟩, h4⟩, h5⟩ := h
    cases xs with
    | nil => simp at h4
    | cons e0 es0 => exact dft G (n_bi G h2 h5 (sRs es G h5)) (fun _ => rfl) (fun _ _ z => by unfold wT at z; exact z) (fun _ _ _ z => nomatch z)
  | .isi a t, _, _, _, _, G, e, h => by
    cases e <;> try (simp [mE] at h; done)
    rename_i fe xs ks pos
    cases fe <;> try (simp [mE] at h; done)
    cases ks <;> try (simp [mE] at h; done)
    match xs, h with
    | [e0, .Name y p], h =>
      simp only [mE, Bool.and_eq_true, beq_iff_eq] at h
      obtain ⟨⟨⟨⟨⟨⟨⟨rfl, h1⟩, h2⟩, rfl⟩, h3⟩, h4⟩, h5⟩, h6⟩ := h
      exact dft G (n_isi G h1 h3 h2 (by simpa using h6) h5 (sE a G h4).1) (fun _ => rfl) (fun _ _ z => by unfold wT at z; exact z) (fun _ _ _ z => nomatch z)
    | [], h => simp [mE] at h
    | [_], h => simp [mE] at h
    | _ :: _ :: _ :: _, h => simp [mE] at h
    | [_, .BoolOp _ _ _], h => simp [mE] at h
    | [_, .NamedExpr _ _ _], h => simp [mE] at h
    | [_, .BinOp _ _ _ _], h => simp [mE] at h
    | [_, .UnaryOp _ _ _], h => simp [mE] at h
    | [_, .Lambda _ _ _ _], h => simp [mE] at h
    | [_, .IfExp _ _ _ _], h => simp [mE] at h
    | [_, .Dict _ _ _], h => simp [mE] at h
    | [_, .Set _ _ _], h => simp [mE] at h
    | [_, .ListComp _ _ _ _], h => simp [mE] at h
    | [_, .SetComp _ _ _ _], h => simp [mE] at h
    | [_, .DictComp _ _ _ _ _], h => simp [mE] at h
    | [_, .GeneratorExp _ _ _ _], h => simp [mE] at h
    | [_, .Await _ _], h => simp [mE] at h
    | [_, .Yield _ _], h => simp [mE] at h
    | [_, .YieldFrom _ _], h => simp [mE] at h
    | [_, .Compare _ _ _ _], h => simp [mE] at h
    | [_, .Call _ _ _ _], h => simp [mE] at h
    | [_, .FormattedValue _ _ _ _], h => simp [mE] at h
    | [_, .JoinedStr _ _], h => simp [mE] at h
    | [_, .Constant _ _ _], h => simp [mE] at h
    | [_, .Attribute _ _ _], h => simp [mE] at h
    | [_, .Subscript _ _ _], h => simp [mE] at h
    | [_, .Starred _ _], h => simp [mE] at h
    | [_, .List _ _], h => simp [mE] at h
    | [_, .Tuple _ _ _], h => simp [mE] at h
    | [_, .Slice _ _ _ _], h => simp [mE] at h
  | .idx a i, _, _, _, _, G, e, h => by
    cases e <;> try (simp [mE] at h; done)
    simp only [mE, Bool.and_eq_true] at h
    exact dft G (n_idx G h.2 (sE a G h.1.1).1 (sE i G h.1.2).1) (fun _ => rfl) (fun _ _ z => by unfold wT at z; exact z) (fun _ _ _ z => nomatch z)
  | .slc a lo hi, _, _, _, _, G, e, h => by
    cases e <;> try (simp [mE] at h; done)
    rename_i x y pos
    cases y <;> try (simp [mE] at h; done)
    rename_i l u st p2
    cases st with
    | some _ => simp [mE] at h
    | none =>
      simp only [mE, Bool.and_eq_true] at h
      exact dft G (n_slc G (mO_two h.1.2) (mO_two h.2) (sE a G h.1.1).1 (sO lo G h.1.2) (sO hi G h.2)) (fun _ => rfl) (fun _ _ z => by unfold wT at z; exact z) (fun _ _ _ z => nomatch z)
  | .comp elt tg it ifs own, _, _, _, _, G, e, h => by
    cases e <;> try (simp [mE] at h; done)
    rename_i e0 gs scope pos
    match gs, h with
    | [⟨t, i, fs, z⟩], h =>
      simp only [mE, Bool.and_eq_true, decide_eq_true_eq] at h
      obtain ⟨⟨⟨⟨⟨⟨rfl, h1⟩, h2⟩, h3⟩, h4⟩, h5⟩, h6⟩ := h
      exact dft G (n_comp G h1 h3 h4 (sI it G h2) (fun s H Cl cl fp => sTs ifs (G.blk s H _ cl Cl fp) h5) (fun s H Cl cl fp => (sE elt (G.blk s H _ cl Cl fp) h6).1)) (fun _ => rfl) (fun _ _ z => by unfold wT at z; exact z) (fun _ _ _ z => nomatch z)
    | [], h => simp [mE] at h
    | _ :: _ :: _, h => simp [mE] at h
  | .rev a, _, sc, _, _, G, e, h => by
    unfold mE at h
    cases hr : revOf e with
    | none => rw [hr] at h; cases h
    | some x =>
      rw [hr] at h
      obtain ⟨k, p1, p2, p3, pos, rfl⟩ := revOf_some hr
      exact dft G (n_rev G (sE a G h).1) (fun _ => rfl) (fun _ _ z => by unfold wT at z; exact z) (fun _ _ _ z => nomatch z)
  | .rgv t es, X1, sc, _, E1, G, e, h => by
    unfold mE at h
    cases hr : rgvOf t sc e with
    | none => rw [hr] at h; cases h
    | some xs =>
      rw [hr] at h
      obtain ⟨p, p2, pos, pos2, rfl, h1, h2⟩ := rgvOf_some hr
      have h : (mEs T es sc xs && (xs.length == 1 || xs.length == 2)) = true := h
      rw [Bool.and_eq_true] at h
      have two : (∃ x e, es = [x] ∧ xs = [e] ∧ noStar e = true ∧ PE X1 e (lE F (wE C x E1))) ∨ (∃ x y e f, es = [x, y] ∧ xs = [e, f] ∧ noStar e = true ∧ noStar f = true ∧ PE X1 e (lE F (wE C x E1)) ∧ PE X1 f (lE F (wE C y E1))) := by
        match es, xs, h with
        | [x], [e], h => simp only [mEs, Bool.and_eq_true] at h; exact .inl ⟨x, e, rfl, rfl, h.1.1.2, (sE x G h.1.1.1).1⟩
        | [x, y], [e, f], h => simp only [mEs, Bool.and_eq_true] at h; exact .inr ⟨x, y, e, f, rfl, rfl, h.1.1.2, h.1.2.1.2, (sE x G h.1.1.1).1, (sE y G h.1.2.1.1).1⟩
        | [], [], h => simp at h
        | [], _ :: _, h => simp [mEs] at h
        | _ :: _, [], h => simp [mEs] at h
        | [_], _ :: _ :: _, h => simp [mEs] at h
        | _ :: _ :: _, [_], h => simp [mEs] at h
        | [_, _], _ :: _ :: _ :: _, h => simp [mEs] at h
        | _ :: _ :: _ :: _, [_, _], h => simp [mEs] at h
        | _ :: _ :: _ :: _, _ :: _ :: _ :: _, h => simp at h
      exact dft G (n_rgv G h1 h2 two) (fun _ => rfl) (fun _ _ z => by unfold wT at z; exact z) (fun _ _ _ z => nomatch z)
  | .meth m o es, _, _, _, _, G, e, h => by
    cases e <;> try (simp [mE] at h; done)
    rename_i fe xs ks pos
    cases fe <;> try (simp [mE] at h; done)
    rename_i fo n apos
    cases fo <;> try (simp [mE] at h; done)
    cases ks <;> try (simp [mE] at h; done)
    simp only [mE, Bool.and_eq_true, beq_iff_eq, decide_eq_true_eq] at h
    obtain ⟨⟨⟨⟨⟨rfl, h1⟩, h2⟩, h3⟩, h4⟩, hme⟩ := h
    match m, es, xs, h2, h4, hme with
    | .append, [x], [e0], h2, _, _ =>
      simp only [mEs, Bool.and_eq_true] at h2
      exact dft G (m_append G (sE o G h1).1 h2.1.2 (n_cons G h2.1.2 (sE x G h2.1.1).1 n_nil) (by simpa using h3)) (fun _ => rfl) (fun _ _ z => by unfold wT at z; exact z) (fun _ _ _ z => nomatch z)
    | .pop, [], [], h2, _, _ => exact dft G (m_pop G (sE o G h1).1 (by simpa using h3)) (fun _ => rfl) (fun _ _ z => by unfold wT at z; exact z) (fun _ _ _ z => nomatch z)
    | .append, [_], [], h2, _, _ => simp [mEs] at h2
    | .append, [_], _ :: _ :: _, h2, _, _ => simp [mEs] at h2
    | .append, [], _, _, h4, _ => simp [meA] at h4
    | .append, _ :: _ :: _, _, _, h4, _ => simp [meA] at h4
    | .pop, [], _ :: _, h2, _, _ => simp [mEs] at h2
    | .pop, _ :: _, _, _, h4, _ => simp [meA] at h4
    | .remove, [x], [e0], h2, _, _ =>
      simp only [mEs, Bool.and_eq_true] at h2
      exact dft G (m_remove G (sE o G h1).1 h2.1.2 (n_cons G h2.1.2 (sE x G h2.1.1).1 n_nil) (by simpa using h3)) (fun _ => rfl) (fun _ _ z => by unfold wT at z; exact z) (fun _ _ _ z => nomatch z)
    | .popat, [x], [e0], h2, _, _ =>
      simp only [mEs, Bool.and_eq_true] at h2
      exact dft G (m_popat G (sE o G h1).1 h2.1.2 (n_cons G h2.1.2 (sE x G h2.1.1).1 n_nil) (by simpa using h3)) (fun _ => rfl) (fun _ _ z => by unfold wT at z; exact z) (fun _ _ _ z => nomatch z)
    | .remove, [_], [], h2, _, _ => simp [mEs] at h2
    | .remove, [_], _ :: _ :: _, h2, _, _ => simp [mEs] at h2
    | .remove, [], _, _, h4, _ => simp [meA] at h4
    | .remove, _ :: _ :: _, _, _, h4, _ => simp [meA] at h4
    | .popat, [_], [], h2, _, _ => simp [mEs] at h2
    | .popat, [_], _ :: _ :: _, h2, _, _ => simp [mEs] at h2
    | .popat, [], _, _, h4, _ => simp [meA] at h4
    | .popat, _ :: _ :: _, _, _, h4, _ => simp [meA] at h4
    | .insert, _, _, _, _, hme => simp at hme
    | .index, _, _, _, _, hme => simp at hme
    | .count, [x], [e0], h2, _, _ =>
      simp only [mEs, Bool.and_eq_true] at h2
      exact dft G (m_count G (sE o G h1).1 h2.1.2 (n_cons G h2.1.2 (sE x G h2.1.1).1 n_nil) (by simpa using h3)) (fun _ => rfl) (fun _ _ z => by unfold wT at z; exact z) (fun _ _ _ z => nomatch z)
    | .count, [_], [], h2, _, _ => simp [mEs] at h2
    | .count, [_], _ :: _ :: _, h2, _, _ => simp [mEs] at h2
    | .count, [], _, _, h4, _ => simp [meA] at h4
    | .count, _ :: _ :: _, _, _, h4, _ => simp [meA] at h4
    | .reverse, _, _, _, _, hme => simp at hme
    | .sort, _, _, _, _, hme => simp at hme
theorem sRs : ∀ (xs : List Ex) {X : Cx} {sc : Scope} {W : WX} {E : Xn → En → Prop}, Gd X F C T sc W E → ∀ {es : List Expr}, mEs T xs sc es = true → PA X es (lR F (wRs C xs E))
  | [], _, _, _, _, G, es, h => by
    cases es with
    | nil => exact n_nil
    | cons _ _ => simp [mEs] at h
  | x :: xs, _, _, _, _, G, es, h => by
    cases es with
    | nil => simp [mEs] at h
    | cons e es =>
      simp only [mEs, Bool.and_eq_true] at h
      exact n_cons G h.1.2 (sE x G h.1.1).1 (sRs xs G h.2)
theorem sO : ∀ (xs : List Ex) {X : Cx} {sc : Scope} {W : WX} {E : Xn → En → Prop}, Gd X F C T sc W E → ∀ {e : Option Expr}, mO T xs sc e = true → PO X e (tO F C E xs)
  | [], _, _, _, _, G, e, h => by
    cases e with
    | none => exact po_none
    | some _ => simp [mO] at h
  | [x], _, _, _, _, G, e, h => by
    cases e with
    | none => simp [mO] at h
    | some e => exact po_some (sE x G (by simpa only [mO] using h)).1
  | _ :: _ :: _, _, _, _, _, G, e, h => by simp [mO] at h
theorem sTs : ∀ (xs : List Ex) {X : Cx} {sc : Scope} {W : WX} {E : Xn → En → Prop}, Gd X F C T sc W E → ∀ {es : List Expr}, mTs T xs sc es = true → PTs X es (lT F (wTs C xs E))
  | [], _, _, _, _, G, es, h => by
    cases es with
    | nil => exact pts_nil'
    | cons _ _ => simp [mTs] at h
  | [x], _, _, _, _, G, es, h => by
    match es, h with
    | [e], h => exact pts_one' G (sE x G (by simpa only [mTs] using h)).2.1
    | [], h => simp [mTs] at h
    | _ :: _ :: _, h => simp [mTs] at h
  | _ :: _ :: _, _, _, _, _, G, es, h => by simp [mTs] at h
theorem sI : ∀ (it : It') {X : Cx} {sc : Scope} {W : WX} {E : Xn → En → Prop}, Gd X F C T sc W E → ∀ {tg e : Expr}, mI T it tg sc e = true → PI X tg e (lI F (wI C it E))
  | .e x, _, _, _, _, G, tg, e, h => i_e G (sE x G (by simpa only [mI] using h)).1
  | .rng es, _, _, _, _, G, tg, e, h => by
    cases e <;> try (simp [mI] at h; done)
    rename_i fe xs ks pos
    cases fe <;> try (simp [mI] at h; done)
    cases ks <;> try (simp [mI] at h; done)
    simp only [mI, Bool.and_eq_true, beq_iff_eq] at h
    obtain ⟨⟨⟨rfl, h1⟩, h2⟩, h3⟩ := h
    exact i_rng G h1 h2 (by simpa using h3) (sRs es G h2)
  | .zip a b, _, _, _, _, G, tg, e, h => by
    cases tg <;> try (simp [mI] at h; done)
    cases e <;> try (simp [mI] at h; done)
    rename_i fe xs ks pos
    cases fe <;> try (simp [mI] at h; done)
    match xs, ks, h with
    | [_, _], _ :: _, h => simp [mI] at h
    | [e, f], [], h =>
      simp only [mI, Bool.and_eq_true, beq_iff_eq] at h
      obtain ⟨⟨⟨⟨⟨rfl, h1⟩, h2⟩, h3⟩, h4⟩, h5⟩ := h
      exact i_zip G h1 h4 h5 (n_cons G h4 (sE a G h2).1 (n_cons G h5 (sE b G h3).1 n_nil))
    | [], _, h => simp [mI] at h
    | [_], _, h => simp [mI] at h
    | _ :: _ :: _ :: _, _, h => simp [mI] at h
  | .enum a, _, _, _, _, G, tg, e, h => by
    cases tg <;> try (simp [mI] at h; done)
    cases e <;> try (simp [mI] at h; done)
    rename_i fe xs ks pos
    cases fe <;> try (simp [mI] at h; done)
    match xs, ks, h with
    | [_], _ :: _, h => simp [mI] at h
    | [e], [], h =>
      simp only [mI, Bool.and_eq_true, beq_iff_eq] at h
      obtain ⟨⟨⟨rfl, h1⟩, h2⟩, h3⟩ := h
      exact i_enum G h1 h3 (n_cons G h3 (sE a G h2).1 n_nil)
    | [], _, h => simp [mI] at h
    | _ :: _ :: _, _, h => simp [mI] at h
end
end
end RK
namespace RK
open PySem L2
def swap2 (sc : Scope) (x y : Str) (px py : Pos) (a b : Expr) : Bool :=
  (match sc.names.lookup x with | some .local => true | _ => false) && (match sc.names.lookup y with | some .local => true | _ => false) && (px.line == py.line) && !(x == y) && noStar a && noStar b &&
    !(foldedForSure 8 a && foldedForSure 8 b) && !(constantsAlone 8 a && constantsAlone 8 b)
theorem swap2_ok {env : Env} {sc : Scope} (hs : env.scope = sc) (hk : sc.kind = .function) {x y : Str} {px py pt pt2 : Pos} {kt k2 : Nat} {a b : Expr} (h : swap2 sc x y px py a b = true) :
    swappedStores [.Tuple [.Name x px, .Name y py] kt pt] (.Tuple [a, b] k2 pt2) env = pure (some [x, y]) := by
  unfold swap2 at h
  simp only [Bool.and_eq_true, Bool.not_eq_true', beq_iff_eq] at h
  obtain ⟨⟨⟨⟨⟨⟨⟨h1, h2⟩, h3⟩, h4⟩, h5⟩, h6⟩, h7⟩, h8⟩ := h
  have k1 : env.kindOf x = some .local := by
    show env.scope.names.lookup x = _
    rw [hs]; revert h1; cases sc.names.lookup x with
    | none => simp
    | some k => cases k <;> simp
  have k2 : env.kindOf y = some .local := by
    show env.scope.names.lookup y = _
    rw [hs]; revert h2; cases sc.names.lookup y with
    | none => simp
    | some k => cases k <;> simp
  have bk : env.blockKind = .function := by unfold Env.blockKind; rw [hs, hk]; rfl
  unfold swappedStores
  have e : (y == x) = false := by
    cases h : y == x with
    | false => rfl
    | true => rw [beq_iff_eq] at h; subst h; simp at h4
  simp [bk, k1, k2, h3, h7, h8, Expr.pos, List.eraseDups, List.eraseDupsBy, List.eraseDupsBy.loop, e]
  cases a <;> (first | (cases h5; done) | skip) <;> cases b <;> (first | (cases h6; done) | simp)
end RK
namespace RK
open PySem L2
/-- what the ends of a statement mean -/
structure EndsOk (F : Fc) (Hf : Hp) (De : DE) (Dn : Ends) : Prop where
  nx : ∀ ρ σ Hf' H, Rel F Hf' H σ ρ → Le Hf Hf' → De.nx ρ → Dn.nx σ H
  rt : ∀ r ρ σ v Hf' H, Rel F Hf' H σ ρ → Le Hf Hf' → RepR F F.H0 Hf' H σ ρ v r → De.rt r ρ → Dn.rt v H
  bk : ∀ ρ σ Hf' H, Rel F Hf' H σ ρ → Le Hf Hf' → De.bk ρ → Dn.bk σ H
  ct : ∀ ρ σ Hf' H, Rel F Hf' H σ ρ → Le Hf Hf' → De.ct ρ → Dn.ct σ H
theorem EndsOk.le {F : Fc} {Hf Hf1 : Hp} {De : DE} {Dn : Ends} (e : EndsOk F Hf De Dn) (l : Le Hf Hf1) : EndsOk F Hf1 De Dn :=
  ⟨fun ρ σ Hf' H q l' => e.nx ρ σ Hf' H q (l.trans l'), fun r ρ σ v Hf' H q l' => e.rt r ρ σ v Hf' H q (l.trans l'), fun ρ σ Hf' H q l' => e.bk ρ σ Hf' H q (l.trans l'), fun ρ σ Hf' H q l' => e.ct ρ σ Hf' H q (l.trans l')⟩
def lS (F : Fc) (w : DE → En → Prop) : TS := fun Dn σ H => ∃ Hf ρ De, Rel F Hf H σ ρ ∧ w De ρ ∧ EndsOk F Hf De Dn
theorem PS.impL {X : Cx} {e : Stmt} {t t' : TS} (h : PS X e t) (i : ∀ D σ H, σ.length = X.N.length → t' D σ H → t D σ H) : PS X e t' := ⟨fun pins s σ H D I q => h.run pins s σ H D I (i D σ H I.len q)⟩
theorem PSs.impL {X : Cx} {e : List Stmt} {t t' : TS} (h : PSs X e t) (i : ∀ D σ H, σ.length = X.N.length → t' D σ H → t D σ H) : PSs X e t' := ⟨fun pins s σ H D I q => h.run pins s σ H D I (i D σ H I.len q)⟩
section
variable {F : Fc} {Hs Hf H Hf' H' Hf0 Hf1 H1 : Hp} {σ : St} {ρ ρ' ρ0 ρ1 : En} {v : V}
theorem asg_n_ok (q0 : Rel F Hf0 Hs σ ρ0) (S : Step σ ρ0 ρ Hf0 Hs Hf H) (q : Rel F Hf H σ ρ) {r : R} (rr : RepR F Hs Hf H σ ρ v r) {i : Nat} (hi : i < σ.length) {Q : En → Prop} (k : asgT (.n i) r ρ Q) : ∃ ρ' Hf', Q ρ' ∧ Rel F Hf' H (σ.set i (some v)) ρ' ∧ Le Hf Hf' := by
  obtain ⟨_, k⟩ := k
  cases r with
  | v d => exact ⟨_, Hf, k, q.set hi rr, Le.refl _⟩
  | f ds =>
    obtain ⟨a, vs, rfl, e1, e2, r, e3⟩ := rr
    exact ⟨_, Hf, k, q.setOw hi e1 e2 r (q0.dom0 e3) (fun j hj => RepR.notOwn (ds := ds) q0 S e3 j hj), Le.refl _⟩
  | b j =>
    obtain ⟨d, ρ2, Hf2, k2, q2, r2, S2, l2, _⟩ := keepR_ok q0 S q rr k
    exact ⟨_, Hf2, k2, q2.set hi r2, l2⟩
end
section
variable {X : Cx} {F : Fc} {C : Ct} {T : Tab} {sc : Scope} {W : WX} {E : Xn → En → Prop}
/-- of a def's own body -/
structure Gs (X : Cx) (F : Fc) (C : Ct) (T : Tab) (sc : Scope) (W : WX) (E : Xn → En → Prop) : Prop where
  g : Gd X F C T sc W E
  po : PassesOwn (model X.prog X.w) X.A X.env X.xe
  fnA : ∀ x, X.fn x = true
  kind : X.env.scope.kind = .function
theorem Gs.tg (G : Gs X F C T sc W E) : TgOk X T (locB sc) := ⟨G.g.N, G.g.nd, fun x h => by rw [G.g.sc]; exact loc_of h, fun x _ => .inl (G.fnA x)⟩
theorem slot_lt (G : Gd X F C T sc W E) {i : Nat} {y : Str} {σ : St} (hl : σ.length = X.N.length) (h : T.N[i]? = some y) : i < σ.length := by
  rw [hl, G.N]; exact (List.getElem?_eq_some_iff.mp h).1
def notComp : Expr → Bool
  | .ListComp _ _ _ _ => false
  | .SetComp _ _ _ _ => false
  | .DictComp _ _ _ _ _ => false
  | _ => true
theorem swaps_no {e : Expr} {t : Option Expr} {l : Nat} {env : Env} (h : notComp e = true) : swapsWith e t l env = pure false := by
  cases e <;> first | rfl | cases h
theorem s_asgN (G : Gs X F C T sc W E) {x : Ex} {i : Nat} {e : Expr} {y : Str} {py pos : Pos} (hc : notComp e = true) (hy : T.N[i]? = some y) (hl : locB sc y = true) (he : PE X e (lE F (wE C x E))) : PS X (.Assign [.Name y py] e pos) (lS F (wS C E (.asg (.n i) x))) := by
  refine PS.impL (ps_set (i := i) (by rw [G.g.N]; exact G.g.nd) (by rw [G.g.N]; exact hy) (by rw [G.g.sc]; exact loc_of hl) he (swaps_no hc) (.inl (G.fnA y))) fun D σ H hn h => ?_
  obtain ⟨Hf, ρ, De, q, w, ends⟩ := h
  unfold wS at w
  refine ⟨Hf, ρ, q, wE_mono G.g.mono x E _ _ _ (fun r ρ1 k v Hf1 H1 S q1 rr => ?_) w⟩
  obtain ⟨ρ2, Hf2, k2, q2, l2⟩ := asg_n_ok q S q1 rr (slot_lt G.g hn hy) k
  exact ends.nx _ _ _ _ q2 (S.le.trans l2) k2
theorem s_asgC (G : Gs X F C T sc W E) {x : Ex} {i : Nat} {e : Expr} {y : Str} {py pos : Pos} {t : TE} (hy : T.N[i]? = some y) (h : PS X (.Assign [.Name y py] e pos) (tAsg t (gName i))) (hr : ∀ σ H Q, σ.length = X.N.length → lE F (wE C x E) σ H Q → t σ H Q) : PS X (.Assign [.Name y py] e pos) (lS F (wS C E (.asg (.n i) x))) := by
  refine PS.impL h fun D σ H hn h => ?_
  obtain ⟨Hf, ρ, De, q, w, ends⟩ := h
  unfold wS at w
  refine hr σ H _ hn ⟨Hf, ρ, q, wE_mono G.g.mono x E _ _ _ (fun r ρ1 k v Hf1 H1 S q1 rr => ?_) w⟩
  obtain ⟨ρ2, Hf2, k2, q2, l2⟩ := asg_n_ok q S q1 rr (slot_lt G.g hn hy) k
  exact ends.nx _ _ _ _ q2 (S.le.trans l2) k2
theorem s_asgT (G : Gs X F C T sc W E) {x : Ex} {l : List Nat} {e : Expr} {es : List Expr} {k : Nat} {p pos : Pos} (hg : mGl T (locB sc) none l es = true) (hsw : swapsWithSole [.Tuple es k p] e pos.line X.env = pure false) (hst : swappedStores [.Tuple es k p] e X.env = pure none) (he : PE X e (lE F (wE C x E))) : PS X (.Assign [.Tuple es k p] e pos) (lS F (wS C E (.asg (.t l) x))) := by
  have hpg : PG X (.Tuple es k p) (gT X.K (.t l)) := pg_t G.tg G.g.calm (own := none) (by exact hg)
  have tlt : ∀ {l : List Nat} {es : List Expr}, mGl T (locB sc) none l es = true → ∀ i ∈ l, i < T.N.length := by
    intro l
    induction l with
    | nil => intro es _ i hi; cases hi
    | cons j js ih =>
      intro es h i hi
      cases es with
      | nil => simp [mGl] at h
      | cons e es =>
        simp only [mGl, Bool.and_eq_true] at h
        rcases List.mem_cons.mp hi with rfl | hi
        · obtain ⟨x, p, rfl, h1, _⟩ := mGn_inv h.1
          exact (List.getElem?_eq_some_iff.mp h1).1
        · exact ih h.2 i hi
  refine PS.impL (ps_asg he hpg hsw hst) fun D σ H hn h => ?_
  obtain ⟨Hf, ρ, De, q, w, ends⟩ := h
  unfold wS at w
  refine ⟨Hf, ρ, q, wE_mono G.g.mono x E _ _ _ (fun r ρ1 k v Hf1 H1 S q1 rr => ?_) w⟩
  unfold asgT at k
  obtain ⟨d, ρ2, Hf2, k2, q2, r2, S2, l2, _⟩ := keepR_ok q S q1 rr k
  refine asgT_v (X := X) (t := .t l) (d := d) (Q := De.nx) G.g.K q2 (fun i hi => by rw [hn, G.g.N]; exact tlt hg i hi) r2 (by unfold asgT keepR; exact k2) fun ρ' vs k3 _ q3 _ _ => ?_
  exact ends.nx _ _ _ _ q3 (S.le.trans l2) k3
theorem s_ret (G : Gs X F C T sc W E) {x : Ex} {e : Expr} {pos : Pos} (he : PE X e (lE F (wE C x E))) : PS X (.Return (some e) pos) (lS F (wS C E (.ret x))) := by
  refine PS.impL (ps_ret he) fun D σ H hn h => ?_
  obtain ⟨Hf, ρ, De, q, w, ends⟩ := h
  unfold wS at w
  refine ⟨Hf, ρ, q, wE_mono G.g.mono x E _ _ _ (fun r ρ1 k v Hf1 H1 S q1 rr => ?_) w⟩
  exact ends.rt r ρ1 σ v Hf1 H1 q1 S.le (rr.from fun a h => q.dom0 h) k
theorem s_ex (G : Gs X F C T sc W E) {x : Ex} {e : Expr} {pos : Pos} (hc : notComp e = true) (he : PE X e (lE F (wE C x E))) : PS X (.Expr e pos) (lS F (wS C E (.ex x))) := by
  refine PS.impL (ps_expr he (swaps_no hc)) fun D σ H hn h => ?_
  obtain ⟨Hf, ρ, De, q, w, ends⟩ := h
  unfold wS at w
  refine ⟨Hf, ρ, q, wE_mono G.g.mono x E _ _ _ (fun r ρ1 k v Hf1 H1 S q1 rr => ?_) w⟩
  exact ends.nx _ _ _ _ q1 S.le k
theorem s_brk {pos : Pos} : PS X (.Break pos) (lS F (wS C E .brk)) :=
  PS.impL ps_break fun D σ H hn h => by
    obtain ⟨Hf, ρ, De, q, w, ends⟩ := h
    unfold wS at w
    exact ends.bk _ _ _ _ q (Le.refl _) w
theorem s_cnt {pos : Pos} : PS X (.Continue pos) (lS F (wS C E .cnt)) :=
  PS.impL ps_continue fun D σ H hn h => by
    obtain ⟨Hf, ρ, De, q, w, ends⟩ := h
    unfold wS at w
    exact ends.ct _ _ _ _ q (Le.refl _) w
theorem s_pass {pos : Pos} : PS X (.Pass pos) (lS F (wS C E .pass)) :=
  PS.impL ps_pass fun D σ H hn h => by
    obtain ⟨Hf, ρ, De, q, w, ends⟩ := h
    unfold wS at w
    exact ends.nx _ _ _ _ q (Le.refl _) w
theorem s_nil : PSs X [] (lS F (wSs C E [])) :=
  PSs.impL pss_nil fun D σ H hn h => by
    obtain ⟨Hf, ρ, De, q, w, ends⟩ := h
    unfold wSs at w
    exact ends.nx _ _ _ _ q (Le.refl _) w
theorem s_cons {s : Sm} {ss : List Sm} {st : Stmt} {sts : List Stmt} (h1 : PS X st (lS F (wS C E s))) (h2 : PSs X sts (lS F (wSs C E ss))) : PSs X (st :: sts) (lS F (wSs C E (s :: ss))) :=
  PSs.impL (pss_cons h1 h2) fun D σ H hn h => by
    obtain ⟨Hf, ρ, De, q, w, ends⟩ := h
    unfold wSs at w
    refine ⟨Hf, ρ, _, q, w, ⟨fun ρ' σ' Hf' H' q' l k => ⟨Hf', ρ', De, q', k, ends.le l⟩, ends.rt, ends.bk, ends.ct⟩⟩
theorem s_if (G : Gs X F C T sc W E) {c : Ex} {a b : List Sm} {ce : Expr} {ae be : List Stmt} {pos : Pos} (hc : PT X ce (lT F (wT C c E))) (ha : PSs X ae (lS F (wSs C E a))) (hb : PSs X be (lS F (wSs C E b))) : PS X (.If ce ae be pos) (lS F (wS C E (.ifs c a b))) :=
  PS.impL (ps_if hc ha hb) fun D σ H hn h => by
    obtain ⟨Hf, ρ, De, q, w, ends⟩ := h
    unfold wS at w
    refine ⟨Hf, ρ, q, wT_mono G.g.mono c E _ _ _ (fun k ρ1 w1 Hf1 H1 S q1 => ?_) w⟩
    cases k with
    | true => exact ⟨Hf1, ρ1, De, q1, w1, ends.le S.le⟩
    | false => exact ⟨Hf1, ρ1, De, q1, w1, ends.le S.le⟩
theorem s_while (G : Gs X F C T sc W E) {c : Ex} {a : List Sm} {ce : Expr} {ae : List Stmt} {pos : Pos} (hc : PT X ce (lT F (wT C c E))) (ha : PSs X ae (lS F (wSs C E a))) : PS X (.While ce ae [] pos) (lS F (wS C E (.whil c a))) :=
  PS.impL (ps_while G.po hc ha) fun D σ H hn h => by
    obtain ⟨Hf, ρ, De, q, w, ends⟩ := h
    unfold wS at w
    obtain ⟨I, ⟨m0, i0⟩, turn⟩ := w
    refine ⟨fun m σ H => ∃ Hf1 ρ1, Rel F Hf1 H σ ρ1 ∧ Le Hf Hf1 ∧ I m ρ1, ⟨m0, Hf, ρ, q, Le.refl _, i0⟩, ?_⟩
    rintro m σ1 H1 ⟨Hf1, ρ1, q1, l1, i1⟩
    refine ⟨Hf1, ρ1, q1, wT_mono G.g.mono c E _ _ _ (fun k ρ2 w2 Hf2 H2 S2 q2 => ?_) (turn m ρ1 i1)⟩
    cases k with
    | false => exact ends.nx _ _ _ _ q2 (l1.trans S2.le) w2
    | true =>
      rw [if_pos rfl]
      refine ⟨fun σ' H' => ∃ m', m' < m ∧ ∃ Hf3 ρ3, Rel F Hf3 H' σ' ρ3 ∧ Le Hf Hf3 ∧ I m' ρ3, fun σ' H' ⟨m', h1, h2⟩ => ⟨m', h1, h2⟩, Hf2, ρ2, _, q2, w2, ?_⟩
      have l2 := l1.trans S2.le
      exact ⟨fun ρ' σ' Hf' H' q' l ⟨m', h1, h2⟩ => ⟨m', h1, Hf', ρ', q', l2.trans l, h2⟩, (ends.le l2).rt, fun ρ' σ' Hf' H' q' l k => (ends.le l2).nx _ _ _ _ q' l k, fun ρ' σ' Hf' H' q' l ⟨m', h1, h2⟩ => ⟨m', h1, Hf', ρ', q', l2.trans l, h2⟩⟩
end
end RK
namespace RK
open PySem L2
section
variable {X : Cx} {F : Fc} {C : Ct} {T : Tab} {sc : Scope} {W : WX} {E : Xn → En → Prop}
def lenE (n : Nat) (D : Ends) : Ends := ⟨fun σ H => σ.length = n → D.nx σ H, D.rt, fun σ H => σ.length = n → D.bk σ H, fun σ H => σ.length = n → D.ct σ H⟩
theorem pss_len {st : List Stmt} {t : TS} (h : PSs X st t) : PSs X st (fun D σ H => t (lenE X.N.length D) σ H) :=
  ⟨fun pins s σ H D I q => thn (h.run pins s σ H _ I q) fun f s' hs => by
    cases f with
    | next => obtain ⟨σ', H', I', k⟩ := hs; exact ⟨σ', H', I', k I'.len⟩
    | brk => obtain ⟨σ', H', I', k⟩ := hs; exact ⟨σ', H', I', k I'.len⟩
    | cont => obtain ⟨σ', H', I', k⟩ := hs; exact ⟨σ', H', I', k I'.len⟩
    | ret u => exact hs⟩
theorem mG_lt {ok : Str → Bool} {own : Option (List Nat)} {t : Tg} {e : Expr} (h : mG T ok own t e = true) : ∀ i ∈ tgI t, i < T.N.length := by
  cases t with
  | n i =>
    intro j hj
    simp [tgI] at hj
    subst hj
    obtain ⟨x, p, rfl, h1, _⟩ := mGn_inv (own := own) h
    exact (List.getElem?_eq_some_iff.mp h1).1
  | t l =>
    cases e <;> try (simp [mG] at h; done)
    rename_i es _ _
    have h : mGl T ok own l es = true := h
    show ∀ i ∈ l, _
    induction l generalizing es with
    | nil => intro i hi; cases hi
    | cons j js ih =>
      intro i hi
      cases es with
      | nil => simp [mGl] at h
      | cons e es =>
        simp only [mGl, Bool.and_eq_true] at h
        rcases List.mem_cons.mp hi with rfl | hi
        · obtain ⟨x, p, rfl, h1, _⟩ := mGn_inv h.1
          exact (List.getElem?_eq_some_iff.mp h1).1
        · exact ih es h.2 h.2 i hi
theorem s_for (G : Gs X F C T sc W E) {t : Tg} {it : It'} {a : List Sm} {tge iter : Expr} {ae : List Stmt} {pos : Pos} (hns : noSet iter = true) (hg : mG T (locB sc) none t tge = true) (hi : PI X tge iter (lI F (wI C it E))) (ha : PSs X ae (lS F (wSs C E a))) : PS X (.For tge iter ae [] pos) (lS F (wS C E (.for_ t it a))) := by
  have hfs : ∀ x, foldedSetIterable iter X.env x = pure x := by intro x; cases iter <;> first | rfl | cases hns
  refine PS.impL (ps_for G.po G.g.calm hi (pg_t G.tg G.g.calm hg) (pss_len ha) hfs) fun D σ H hn h => ?_
  obtain ⟨Hf, ρ, De, q, w, ends⟩ := h
  unfold wS at w
  refine ⟨Hf, ρ, q, wI_mono G.g.mono it E _ _ _ (fun items ρ1 k Hf1 H1 J GG S1 q1 I g1 => ?_) w⟩
  let step : RK.D → En → (En → Prop) → Prop := fun d ρ2 k => asgT t (.v d) ρ2 fun ρ3 => wSs C E a ⟨k, De.rt, De.nx, k⟩ ρ3
  have tlt := mG_lt hg
  refine ⟨fun i m σ H => m = items.length - i ∧ i ≤ items.length ∧ σ.length = X.N.length ∧ ∃ Hf2 ρ2, Rel F Hf2 H σ ρ2 ∧ Le Hf Hf2 ∧ GG Hf2 H ∧ forL step (items.drop i) ρ2 De.nx, ⟨_, rfl, Nat.zero_le _, hn, Hf1, ρ1, q1, S1.le, g1, k⟩, ?_⟩
  rintro i m σ2 H2 ⟨rfl, hil, hlen, Hf2, ρ2, q2, l2, g2, kk⟩
  by_cases hlt : i < items.length
  case neg =>
    have hie : i = items.length := by omega
    subst hie
    refine .inl ⟨I.stop _ Hf2 H2 g2 (Nat.le_refl _), ?_⟩
    rw [List.drop_length] at kk
    exact ends.nx _ _ _ _ q2 l2 kk
  refine .inr ⟨I.go i Hf2 H2 g2 hlt, fun σ' H' => σ'.length = X.N.length ∧ ∃ Hf3 ρ3, Rel F Hf3 H' σ' ρ3 ∧ Le Hf Hf3 ∧ GG Hf3 H' ∧ forL step (items.drop (i + 1)) ρ3 De.nx, fun σ' H' ⟨h0, h⟩ => ⟨_, by omega, rfl, hlt, h0, h⟩, fun x Hy hy => ?_⟩
  obtain ⟨d, hd, hx⟩ := I.yld i Hf2 H2 x Hy hlt g2 q2.sub hy
  have hdrop : items.drop i = d :: items.drop (i + 1) := by
    obtain ⟨h1, h2⟩ := List.getElem?_eq_some_iff.mp hd
    rw [← h2]
    exact List.drop_eq_getElem_cons h1
  rw [hdrop] at kk
  obtain ⟨Hf3, q3, l3, g3, r3⟩ : ∃ Hf3, Rel F Hf3 Hy σ2 ρ2 ∧ Le Hf2 Hf3 ∧ GG Hf3 Hy ∧ Rep F.K F.fa Hf3 x d := by
    rcases hx with ⟨rfl, r⟩ | ⟨p, us, es, rfl, rfl, hp, rfl, r⟩
    · exact ⟨Hf2, q2, Le.refl _, g2, r⟩
    · have lf := le_upd (o := HO.tup us) (q2.none_f hp)
      exact ⟨upd Hf2 p (.tup us), q2.laid hp, lf, I.mono _ _ _ _ g2 lf (q2.laid hp).sub, .tup (.inl (.inl upd_same)) (Reps.le lf r)⟩
  have kk : step d ρ2 (fun ρ' => forL step (items.drop (i + 1)) ρ' De.nx) := kk
  refine asgT_v (X := X) G.g.K q3 (fun j hj => by rw [hlen, G.g.N]; exact tlt j hj) r3 kk fun ρ3 us k3 hus q4 _ _ => ?_
  have l4 : Le Hf Hf3 := l2.trans l3
  refine ⟨Hf3, ρ3, _, q4, k3, ⟨fun ρ' σ' Hf' H' q' l k hl' => ⟨hl', Hf', ρ', q', l4.trans l, I.mono _ _ _ _ g3 l q'.sub, k⟩, fun r ρ' σ' v Hf' H' q' l => ends.rt r ρ' σ' v Hf' H' q' (l4.trans l), fun ρ' σ' Hf' H' q' l k hl' => ends.nx _ _ _ _ q' (l4.trans l) k, fun ρ' σ' Hf' H' q' l k hl' => ⟨hl', Hf', ρ', q', l4.trans l, I.mono _ _ _ _ g3 l q'.sub, k⟩⟩⟩
/-- a, b = x, y -/
theorem keepBs_ok {Hs Hf0 : Hp} {σ : St} {ρ0 : En} {H : Hp} (q0 : Rel F Hf0 Hs σ ρ0) : ∀ {rs : List R} {vs : List V} {ρ : En} {Hf : Hp} {K : List R → En → Prop}, Step σ ρ0 ρ Hf0 Hs Hf H → Rel F Hf H σ ρ → RepRs F Hs Hf H σ ρ vs rs → keepBs ρ rs K →
    ∃ rs' ρ' Hf', K rs' ρ' ∧ Rel F Hf' H σ ρ' ∧ RepRs F Hs Hf' H σ ρ' vs rs' ∧ (∀ r ∈ rs', ∀ i, r ≠ .b i) ∧ (∀ (j : Nat) (r : R), rs'[j]? = some r → isF r = true → rs[j]? = some r) ∧ Step σ ρ0 ρ' Hf0 Hs Hf' H ∧ Le Hf Hf' ∧ ∀ w r', RepR F Hs Hf H σ ρ w r' → RepR F Hs Hf' H σ ρ' w r'
  | [], _, ρ, Hf, K, S0, q, .nil, k => ⟨[], ρ, Hf, k, q, .nil, by simp, by simp, S0, Le.refl _, fun _ _ x => x⟩
  | r :: rs, v :: vs, ρ, Hf, K, S0, q, .cons h t dj, k => by
    have one : ∃ r' ρ1 Hf1, keepBs ρ1 rs (fun rs' ρ2 => K (r' :: rs') ρ2) ∧ Rel F Hf1 H σ ρ1 ∧ RepR F Hs Hf1 H σ ρ1 v r' ∧ (∀ i, r' ≠ .b i) ∧ (isF r' = true → r = r') ∧ Step σ ρ0 ρ1 Hf0 Hs Hf1 H ∧ Le Hf Hf1 ∧ ∀ w r', RepR F Hs Hf H σ ρ w r' → RepR F Hs Hf1 H σ ρ1 w r' := by
      unfold keepBs keepB at k
      cases r with
      | v d => exact ⟨.v d, ρ, Hf, k, q, h, (fun _ z => nomatch z), (fun z => nomatch z), S0, Le.refl _, fun _ _ x => x⟩
      | f d => exact ⟨.f d, ρ, Hf, k, q, h, (fun _ z => nomatch z), fun _ => rfl, S0, Le.refl _, fun _ _ x => x⟩
      | b i =>
        obtain ⟨d, ρ1, Hf1, k1, q1, r1, S1, l1, P1⟩ := keepR_ok q0 S0 q h k
        exact ⟨.v d, ρ1, Hf1, k1, q1, r1, (fun _ z => nomatch z), (fun z => nomatch z), S1, l1, fun w r' x => P1 w r' x (fun z => nomatch z)⟩
    obtain ⟨r', ρ1, Hf1, k1, q1, r1, nb, fr, S1, l1, P1⟩ := one
    have t1 : RepRs F Hs Hf1 H σ ρ1 vs rs := t.map fun j w r' e1 e2 x => P1 w r' x
    obtain ⟨rs', ρ2, Hf2, k2, q2, r2, nb2, sm2, S2, l2, P2⟩ := keepBs_ok q0 S1 q1 t1 k1
    refine ⟨r' :: rs', ρ2, Hf2, k2, q2, .cons (P2 v r' r1) r2 (fun j w r'' f1 e1 e2 f2 => ?_), fun x hx => ?_, fun j r'' e f1 => ?_, S2, l1.trans l2, fun w r' x => P2 w r' (P1 w r' x)⟩
    · have e0 := fr f1
      subst e0
      exact dj j w r'' f1 e1 (sm2 j r'' e2 f2) f2
    · rcases List.mem_cons.mp hx with rfl | hx
      · exact nb
      · exact nb2 x hx
    · cases j with
      | zero =>
        simp at e
        subst e
        rw [fr f1]; rfl
      | succ j => simpa using sm2 j r'' (by simpa using e) f1
/-- several slots are set; what is new is theirs -/
theorem setRs_ok {Hf H : Hp} : ∀ {is : List Nat} {vs : List V} {rs : List R} {σ : St} {ρ : En} {Q : En → Prop}, Rel F Hf H σ ρ → (∀ i ∈ is, i < σ.length) →
    (∀ (j : Nat) (v : V) (r : R), vs[j]? = some v → rs[j]? = some r → (∀ i, r ≠ .b i) ∧ ((∃ d, r = .v d ∧ Rep F.K F.fa Hf v d) ∨ ∃ ds a ws, r = .f ds ∧ v = .ref a ∧ H a = some (.lst ws) ∧ Hf a = none ∧ Reps F.K F.fa Hf ws ds ∧ F.H0 a = none ∧ ∀ i : Nat, isOwn ρ[i]? = true → σ[i]? ≠ some (some (V.ref a)))) →
    (∀ (j k : Nat) (v w : V) (r r' : R), j < k → vs[j]? = some v → rs[j]? = some r → isF r = true → vs[k]? = some w → rs[k]? = some r' → isF r' = true → v ≠ w) → vs.length = rs.length →
    setRs ρ is rs Q → ∃ ρ', Q ρ' ∧ Rel F Hf H (setAll σ is vs) ρ'
  | [], [], [], σ, ρ, Q, q, _, _, _, _, k => ⟨ρ, k, q⟩
  | i :: is, v :: vs, r :: rs, σ, ρ, Q, q, hl, hr, hd, hn, k => by
    obtain ⟨_, k⟩ := k
    have hi := hl i List.mem_cons_self
    obtain ⟨_, h0⟩ := hr 0 v r rfl rfl
    have q' : Rel F Hf H (σ.set i (some v)) (ρ.set i (slR r)) := by
      rcases h0 with ⟨d, rfl, r1⟩ | ⟨ds, a, ws, rfl, rfl, e1, e2, e3, e4, e5⟩
      · exact q.set hi r1
      · exact q.setOw hi e1 e2 e3 e4 e5
    refine setRs_ok (is := is) (vs := vs) (rs := rs) q' (fun j hj => by rw [List.length_set]; exact hl j (List.mem_cons_of_mem _ hj)) (fun j w r' e1 e2 => ?_) (fun j k v' w' r1 r2 hjk e1 e2 f1 e3 e4 f2 => hd (j + 1) (k + 1) v' w' r1 r2 (by omega) (by simpa using e1) (by simpa using e2) f1 (by simpa using e3) (by simpa using e4) f2) (by simpa using hn) k
    obtain ⟨a1, a2⟩ := hr (j + 1) w r' (by simpa using e1) (by simpa using e2)
    refine ⟨a1, ?_⟩
    rcases a2 with a2 | ⟨ds, a, ws, rfl, rfl, g1, g2, g3, g4, g5⟩
    · exact .inl a2
    · refine .inr ⟨ds, a, ws, rfl, rfl, g1, g2, g3, g4, fun m hm => ?_⟩
      by_cases hmi : m = i
      · subst hmi
        rw [List.getElem?_set_self hi]
        rcases h0 with ⟨d, rfl, r1⟩ | ⟨ds', b, ws', rfl, rfl, _⟩
        · have ρl : m < ρ.length := by rw [← q.len]; exact hi
          rw [List.getElem?_set_self ρl] at hm
          cases hm
        · intro z
          cases z
          exact hd 0 (j + 1) _ _ _ _ (by omega) rfl rfl rfl (by simpa using e1) (by simpa using e2) rfl rfl
      · rw [set_ne hmi] at hm
        rw [st_set_ne hmi]; exact g5 m hm
  | [], v :: vs, r :: rs, _, _, _, _, _, _, _, _, k => k.elim
  | _ :: _, [], [], _, _, _, _, _, _, _, _, k => k.elim
  | _, [], _ :: _, _, _, _, _, _, _, _, hn, _ => by simp at hn
  | _, _ :: _, [], _, _, _, _, _, _, _, hn, _ => by simp at hn
end
end RK
namespace RK
open PySem L2
section
variable {X : Cx} {F : Fc} {C : Ct} {T : Tab} {sc : Scope} {W : WX} {E : Xn → En → Prop}
/-- the end of a, b = .. -/
theorem par_end (G : Gs X F C T sc W E) {is : List Nat} {σ : St} {H Hf Hf1 H1 : Hp} {ρ ρ1 : En} {vs : List V} {rs : List R} {De : DE} {Dn : Ends} (hlt : ∀ i ∈ is, i < σ.length) (q : Rel F Hf H σ ρ) (ends : EndsOk F Hf De Dn) (S : Step σ ρ ρ1 Hf H Hf1 H1) (q1 : Rel F Hf1 H1 σ ρ1) (rr : RepRs F H Hf1 H1 σ ρ1 vs rs) (k : keepBs ρ1 rs fun rs' ρ2 => setRs ρ2 is rs' De.nx) : Dn.nx (setAll σ is vs) H1 := by
  obtain ⟨rs', ρ2, Hf2, k2, q2, r2, nb, _, S2, l2, _⟩ := keepBs_ok q S q1 rr k
  have dj : ∀ {vs : List V} {rs : List R}, RepRs F H Hf2 H1 σ ρ2 vs rs → ∀ (j k : Nat) (v w : V) (r r' : R), j < k → vs[j]? = some v → rs[j]? = some r → isF r = true → vs[k]? = some w → rs[k]? = some r' → isF r' = true → v ≠ w := by
    intro vs rs h
    induction h with
    | nil => intro j k v w r r' _ e; simp at e
    | cons h t d ih =>
      intro j k v w r r' hjk e1 e2 f1 e3 e4 f2
      cases k with
      | zero => omega
      | succ k =>
        cases j with
        | zero =>
          simp at e1 e2
          subst e1; subst e2
          exact d k w r' f1 (by simpa using e3) (by simpa using e4) f2
        | succ j => exact ih j k v w r r' (by omega) (by simpa using e1) (by simpa using e2) f1 (by simpa using e3) (by simpa using e4) f2
  have one : ∀ {vs : List V} {rs : List R}, RepRs F H Hf2 H1 σ ρ2 vs rs → ∀ (j : Nat) (v : V) (r : R), vs[j]? = some v → rs[j]? = some r → RepR F H Hf2 H1 σ ρ2 v r := by
    intro vs rs h
    induction h with
    | nil => intro j v r e; simp at e
    | cons h t d ih =>
      intro j v r e1 e2
      cases j with
      | zero => simp at e1 e2; subst e1; subst e2; exact h
      | succ j => exact ih j v r (by simpa using e1) (by simpa using e2)
  refine (fun hh => (fun ⟨ρ3, k3, q3⟩ => ends.nx _ _ _ _ q3 (S.le.trans l2) k3) (setRs_ok (is := is) q2 hlt hh (dj r2) r2.length k2)) (fun j v r e1 e2 => ?_)
  · have hr := one r2 j v r e1 e2
    have hb := nb r (List.mem_of_getElem? e2)
    refine ⟨hb, ?_⟩
    cases r with
    | v d => exact .inl ⟨d, rfl, hr⟩
    | b i => exact absurd rfl (hb i)
    | f ds =>
      obtain ⟨a, ws, rfl, g1, g2, g3, g4⟩ := hr
      exact .inr ⟨ds, a, ws, rfl, rfl, g1, g2, g3, q.dom0 g4, fun i hi => RepR.notOwn (ds := ds) q S2 g4 i hi⟩
theorem s_par2 (G : Gs X F C T sc W E) {i j : Nat} {xs : List Ex} {x y : Str} {px py pt pt2 pos : Pos} {kt k2 : Nat} {a b : Expr} (hij : i ≠ j) (hi : T.N[i]? = some x) (hj : T.N[j]? = some y) (hsw : swap2 sc x y px py a b = true) (hes : PA X [a, b] (lR F (wRs C xs E))) : PS X (.Assign [.Tuple [.Name x px, .Name y py] kt pt] (.Tuple [a, b] k2 pt2) pos) (lS F (wS C E (.par [i, j] xs))) := by
  have hsw' := hsw
  unfold swap2 at hsw'
  simp only [Bool.and_eq_true] at hsw'
  obtain ⟨⟨⟨⟨⟨⟨⟨h1, h2⟩, _⟩, _⟩, _⟩, _⟩, _⟩, _⟩ := hsw'
  have l1 : X.env.scope.names.lookup x = some .local := by
    rw [G.g.sc]; revert h1; cases sc.names.lookup x with
    | none => simp
    | some k => cases k <;> simp
  have l2 : X.env.scope.names.lookup y = some .local := by
    rw [G.g.sc]; revert h2; cases sc.names.lookup y with
    | none => simp
    | some k => cases k <;> simp
  refine PS.impL (ps_par G.g.calm (by rw [G.g.N]; exact G.g.nd) (by rw [G.g.N]; exact hi) (by rw [G.g.N]; exact hj) hij l1 l2 hes (swap2_ok G.g.sc (by rw [← G.g.sc]; exact G.kind) hsw)) fun D σ H hn h => ?_
  obtain ⟨Hf, ρ, De, q, w, ends⟩ := h
  unfold wS at w
  refine ⟨Hf, ρ, q, wRs_mono G.g.mono xs E _ _ _ (fun rs ρ1 k vs Hf1 H1 S q1 rr => ?_) w⟩
  have hlt : ∀ m ∈ [i, j], m < σ.length := fun m hm => by
    simp at hm
    rcases hm with rfl | rfl
    · exact slot_lt G.g hn hi
    · exact slot_lt G.g hn hj
  have hlen : vs.length = 2 := by
    have : rs.length = 2 := by
      have : ∀ (rs : List R) (ρ : En), (keepBs ρ rs fun rs' ρ2 => setRs ρ2 [i, j] rs' De.nx) → rs.length = 2 := by
        intro rs ρ k
        have key : ∀ (rs : List R) (ρ : En) (K : List R → En → Prop), keepBs ρ rs K → ∃ rs' ρ', rs'.length = rs.length ∧ K rs' ρ' := by
          intro rs
          induction rs with
          | nil => intro ρ K k; exact ⟨[], ρ, rfl, k⟩
          | cons r rs ih =>
            intro ρ K k
            unfold keepBs at k
            have : ∃ r' ρ1, keepBs ρ1 rs fun rs' ρ2 => K (r' :: rs') ρ2 := by
              unfold keepB at k
              cases r with
              | v d => exact ⟨_, _, k⟩
              | f d => exact ⟨_, _, k⟩
              | b m =>
                unfold keepR at k
                simp only at k
                cases hs : ρ[m]? with
                | none => simp only [hs] at k
                | some s =>
                  simp only [hs] at k
                  cases s with
                  | no => exact k.elim
                  | io _ => exact k.elim
                  | v d => exact ⟨_, _, k⟩
                  | ow d => exact ⟨_, _, k⟩
            obtain ⟨r', ρ1, k⟩ := this
            obtain ⟨rs', ρ', e, k⟩ := ih ρ1 _ k
            exact ⟨_, _, by simp [e], k⟩
        obtain ⟨rs', ρ', e, k⟩ := key rs ρ _ k
        rw [← e]
        match rs', k with
        | [_, _], _ => rfl
        | [], k => exact k.elim
        | [_], k => exact k.2.elim
        | _ :: _ :: _ :: _, k => exact k.2.2.elim
      exact this rs ρ1 k
    rw [rr.length, this]
  match vs, hlen with
  | [v, w'], _ => exact ⟨v, w', rfl, par_end G hlt q ends S q1 rr k⟩
theorem st_set_self {σ : St} {i : Nat} {x : Option V} (h : σ[i]? = some x) : σ.set i x = σ := by
  apply List.ext_getElem?
  intro j
  by_cases hj : j = i
  · subst hj; rw [List.getElem?_set_self (List.getElem?_eq_some_iff.mp h).1, h]
  · rw [st_set_ne hj]
def tipA : TIp := fun x y H Q => (∃ i j, x = .int i ∧ y = .int j ∧ Q (.int (i + j)) H) ∨ rExt2 x y H Q
theorem ip_a : PIp X .Add tipA := by
  intro pins s σ H x y v u Q I rx ry h
  rcases h with ⟨i, j, rfl, rfl, q⟩ | h
  · exact ip_add pins s σ H _ _ v u Q I rx ry ⟨i, j, rfl, rfl, q⟩
  · exact iop_ext pins s σ H _ _ v u Q I rx ry h
theorem s_augA (G : Gs X F C T sc W E) {i : Nat} {x : Ex} {y : Str} {e : Expr} {py pos : Pos} (hy : T.N[i]? = some y) (hl : locB sc y = true) (he : PE X e (lE F (wE C x E))) : PS X (.AugAssign (.Name y py) .Add e pos) (lS F (wS C E (.aug i .add x))) := by
  refine PS.impL (ps_aug (i := i) (by rw [G.g.N]; exact G.g.nd) (by rw [G.g.N]; exact hy) (by rw [G.g.sc]; exact loc_of hl) he ip_a (.inl (G.fnA y))) fun D σ H hn h => ?_
  obtain ⟨Hf, ρ, De, q, w, ends⟩ := h
  unfold wS at w
  have hlt := slot_lt G.g hn hy
  cases hs : ρ[i]? with
  | none => simp only [hs] at w
  | some s =>
    simp only [hs] at w
    have sl := q.slot i s hs
    cases s with
    | no => exact w.elim
    | io _ => exact w.elim
    | v d =>
      cases d <;> try exact w.elim
      rename_i n
      obtain ⟨v, ev, r⟩ := sl
      cases r
      refine ⟨_, ev, Hf, ρ, q, wE_mono G.g.mono x E _ _ _ (fun r ρ1 k v Hf1 H1 S q1 rr => ?_) w⟩
      have t := rr.top q1
      cases hr : get ρ1 r with
      | int m =>
        rw [hr] at k t
        cases t
        exact .inl ⟨n, m, rfl, rfl, ends.nx _ _ _ _ (q1.set hlt (.int _)) S.le k⟩
      | _ => rw [hr] at k; exact k.elim
    | ow xs =>
      obtain ⟨a, ws, ea, _⟩ := sl
      refine ⟨_, ea, Hf, ρ, q, wE_mono G.g.mono x E _ _ _ (fun r ρ1 k v Hf1 H1 S q1 rr => ?_) w⟩
      have t := rr.top q1
      cases hr : get ρ1 r with
      | lst ys =>
        rw [hr] at k t
        obtain ⟨b, us, rfl, e1, e2⟩ := t
        cases hs1 : ρ1[i]? with
        | none => simp only [hs1] at k
        | some s1 =>
          simp only [hs1] at k
          cases s1 with
          | no => exact k.elim
          | io _ => exact k.elim
          | v _ => exact k.elim
          | ow xs1 =>
            obtain ⟨hz, k⟩ := k
            obtain ⟨a', ws1, ea', g1, g2, g3, g4⟩ := q1.slot i _ hs1
            rw [ea] at ea'; cases ea'
            refine .inr ⟨a, b, ws1, us, rfl, rfl, g1, e1, by rw [g3.length, e2.length]; exact hz, ?_⟩
            show D.nx (σ.set i (some (V.ref a))) _
            rw [st_set_self ea]
            have fr := Fr.write (ws := ws1 ++ us) q1.sub g1 g2
            exact ends.nx _ _ _ _ (q1.calledIo fr (.inl hs1) ea upd_same g2 (g3.append e2) (.inl ⟨hs1, rfl⟩)) (S.le.trans fr.le) k
      | _ => rw [hr] at k; exact k.elim
/-- xs[i] = e -/
theorem assign_sub {o i : Expr} {pos : Pos} {env : Env} (h : noSlice i = true) : ∀ v, assign (.Subscript o i pos) env v = (do
      let ov ← holding [v] (eval o env)
      let iv ← holding [v, ov] (eval i env)
      standAt pos
      holding [v, ov, iv] (setItem ov iv v)
      release [v, ov, iv] []) := by
  intro v
  cases i <;> first | rfl | cases h
theorem s_sti (G : Gs X F C T sc W E) {xo xi x : Ex} {o i e : Expr} {tp pos : Pos} (hns : noSlice i = true) (hc : notComp e = true) (ho : PE X o (lE F (wE C xo E))) (hi : PE X i (lE F (wE C xi E))) (he : PE X e (lE F (wE C x E))) : PS X (.Assign [.Subscript o i tp] e pos) (lS F (wS C E (.sti xo xi x))) := by
  refine PS.impL (ps_asg he (pg_sub ho hi set_list (assign_sub hns)) (by unfold swapsWithSole; exact swaps_no hc) (by cases e <;> rfl)) fun D σ H hn h => ?_
  obtain ⟨Hf, ρ, De, q, w, ends⟩ := h
  unfold wS at w
  refine ⟨Hf, ρ, q, wE_mono G.g.mono x E _ _ _ (fun r ρ1 k v Hf1 H1 S q1 rr => ?_) w⟩
  obtain ⟨d, ρ2, Hf2, k2, q2, r2, S2, l2, _⟩ := keepR_ok q S q1 rr k
  refine ⟨Hf2, ρ2, q2, wE_mono G.g.mono xo E _ _ _ (fun ro ρ3 k3 vo Hf3 H3 S3 q3 r3 => ⟨Hf3, ρ3, q3, wE_mono G.g.mono xi E _ _ _ (fun ri ρ4 k4 vi Hf4 H4 S4 q4 r4 => ?_) k3⟩) k2⟩
  have t4 := r4.top q4
  have l4 : Le Hf Hf4 := ((S.le.trans l2).trans S3.le).trans S4.le
  have rd : Rep F.K F.fa Hf4 v d := Rep.le (S3.le.trans S4.le) r2
  cases ro with
  | v _ => exact k4.elim
  | f _ => exact k4.elim
  | b j =>
    obtain ⟨hj, _⟩ := r3
    cases hr : get ρ4 ri with
    | int n =>
      rw [hr] at k4 t4
      cases t4
      cases hs : ρ4[j]? with
      | none => simp only [hs] at k4
      | some s =>
        simp only [hs] at k4
        cases s with
        | no => exact k4.elim
        | v _ => exact k4.elim
        | ow xs =>
          obtain ⟨m, hm, k4⟩ := k4
          obtain ⟨a, ws, ea, g1, g2, g3, g4⟩ := q4.slot j _ hs
          rw [hj] at ea; cases ea
          have fr := Fr.write (ws := ws.set m v) q4.sub g1 g2
          exact ⟨a, ws, n, m, rfl, rfl, g1, by rw [g3.length]; exact hm, ends.nx _ _ _ _ (q4.calledIo fr (.inl hs) hj upd_same g2 (Reps.set rd m g3) (.inl ⟨hs, rfl⟩)) l4 k4⟩
        | io xs =>
          obtain ⟨m, hm, k4⟩ := k4
          obtain ⟨a, ws, ea, g1, g2, g3, g4⟩ := q4.slot j _ hs
          rw [hj] at ea; cases ea
          have fr := Fr.write (ws := ws.set m v) q4.sub g1 g2
          exact ⟨a, ws, n, m, rfl, rfl, g1, by rw [g3.length]; exact hm, ends.nx _ _ _ _ (q4.calledIo fr (.inr hs) hj upd_same g2 (Reps.set rd m g3) (.inr ⟨hs, rfl⟩)) l4 k4⟩
    | _ => rw [hr] at k4; exact k4.elim
end
end RK
namespace RK
open PySem L2
theorem keepBs_get : ∀ (rs : List R) (ρ : En) (K : List R → En → Prop), keepBs ρ rs K → ∃ rs' ρ', rs'.length = rs.length ∧ K rs' ρ' := by
  intro rs
  induction rs with
  | nil => intro ρ K k; exact ⟨[], ρ, rfl, k⟩
  | cons r rs ih =>
    intro ρ K k
    unfold keepBs at k
    have : ∃ r' ρ1, keepBs ρ1 rs fun rs' ρ2 => K (r' :: rs') ρ2 := by
      unfold keepB at k
      cases r with
      | v d => exact ⟨_, _, k⟩
      | f d => exact ⟨_, _, k⟩
      | b m =>
        unfold keepR at k
        simp only at k
        cases hs : ρ[m]? with
        | none => simp only [hs] at k
        | some s =>
          simp only [hs] at k
          cases s with
          | no => exact k.elim
          | io _ => exact k.elim
          | v d => exact ⟨_, _, k⟩
          | ow d => exact ⟨_, _, k⟩
    obtain ⟨r', ρ1, k⟩ := this
    obtain ⟨rs', ρ', e, k⟩ := ih ρ1 _ k
    exact ⟨_, _, by simp [e], k⟩
theorem setRs_len : ∀ {is : List Nat} {rs : List R} {ρ : En} {Q : En → Prop}, setRs ρ is rs Q → rs.length = is.length
  | [], [], _, _, _ => rfl
  | i :: is, r :: rs, _, _, k => by simp only [List.length_cons, setRs_len k.2]
  | [], _ :: _, _, _, k => k.elim
  | _ :: _, [], _, _, k => k.elim
theorem par_len {rs : List R} {ρ : En} {is : List Nat} {Q : En → Prop} (k : keepBs ρ rs fun rs' ρ2 => setRs ρ2 is rs' Q) : rs.length = is.length := by
  obtain ⟨rs', ρ', e, k⟩ := keepBs_get rs ρ _ k
  rw [← e]; exact setRs_len k
def swap3 (sc : Scope) (x y z : Str) (px py pz : Pos) (a b c : Expr) : Bool :=
  (match sc.names.lookup x with | some .local => true | _ => false) && (match sc.names.lookup y with | some .local => true | _ => false) && (match sc.names.lookup z with | some .local => true | _ => false) && (px.line == py.line) && (px.line == pz.line) &&
    !(x == y) && !(x == z) && !(y == z) && noStar a && noStar b && noStar c && !(foldedForSure 8 a && (foldedForSure 8 b && foldedForSure 8 c)) && !(constantsAlone 8 a && (constantsAlone 8 b && constantsAlone 8 c))
theorem isLoc {sc : Scope} {x : Str} (h : (match sc.names.lookup x with | some .local => true | _ => false) = true) : sc.names.lookup x = some .local := by
  revert h; cases sc.names.lookup x with
  | none => simp
  | some k => cases k <;> simp
theorem beq_ne {x y : Str} (h : (x == y) = false) : (y == x) = false := by
  cases h2 : y == x with
  | false => rfl
  | true => rw [beq_iff_eq] at h2; subst h2; simp at h
theorem swap3_ok {env : Env} {sc : Scope} (hs : env.scope = sc) (hk : sc.kind = .function) {x y z : Str} {px py pz pt pt2 : Pos} {kt k2 : Nat} {a b c : Expr} (h : swap3 sc x y z px py pz a b c = true) :
    swappedStores [.Tuple [.Name x px, .Name y py, .Name z pz] kt pt] (.Tuple [a, b, c] k2 pt2) env = pure (some [x, y, z]) := by
  unfold swap3 at h
  simp only [Bool.and_eq_true, Bool.not_eq_true'] at h
  obtain ⟨⟨⟨⟨⟨⟨⟨⟨⟨⟨⟨⟨h1, h2⟩, h3⟩, h4⟩, h5⟩, n1⟩, n2⟩, n3⟩, s1⟩, s2⟩, s3⟩, f1⟩, f2⟩ := h
  have k1 : env.kindOf x = some .local := by
    show env.scope.names.lookup x = _
    rw [hs]; exact isLoc h1
  have k2 : env.kindOf y = some .local := by
    show env.scope.names.lookup y = _
    rw [hs]; exact isLoc h2
  have k3 : env.kindOf z = some .local := by
    show env.scope.names.lookup z = _
    rw [hs]; exact isLoc h3
  have bk : env.blockKind = .function := by unfold Env.blockKind; rw [hs, hk]; rfl
  have e1 : (py.line == px.line) = true := by
    rw [beq_iff_eq] at h4 ⊢; exact h4.symm
  have e2 : (pz.line == px.line) = true := by
    rw [beq_iff_eq] at h5 ⊢; exact h5.symm
  rw [beq_iff_eq] at e1 e2
  unfold swappedStores
  simp [bk, k1, k2, k3, e1, e2, f1, f2, Expr.pos, List.eraseDups, List.eraseDupsBy, List.eraseDupsBy.loop, beq_ne n1, beq_ne n2, beq_ne n3]
  rintro (h | h | h)
  · cases a <;> first | (cases h; done) | (cases s1; done)
  · cases b <;> first | (cases h; done) | (cases s2; done)
  · cases c <;> first | (cases h; done) | (cases s3; done)
def noSw (sc : Scope) : List Expr → List Expr → Bool
  | ts, vs => (vs.length == ts.length) && ((!(ts.length == 2) && !(ts.length == 3)) || ts.any fun t => match t with
    | .Name x _ => (match sc.names.lookup x with | some .local => false | _ => true)
    | _ => true) || ((vs.length == ts.length) && vs.all (foldedForSure 8))
theorem filterMap_lt {α β : Type} {f : α → Option β} : ∀ {l : List α}, (∃ a ∈ l, f a = none) → (l.filterMap f).length < l.length
  | [], ⟨a, h, _⟩ => by cases h
  | b :: l, ⟨a, h, e⟩ => by
    have le := List.length_filterMap_le f l
    rcases List.mem_cons.mp h with rfl | h
    · rw [List.filterMap_cons, e]; simp only [List.length_cons]; omega
    · have := filterMap_lt (f := f) ⟨a, h, e⟩
      rw [List.filterMap_cons]
      cases f b <;> simp only [List.length_cons] <;> omega
theorem noSw_ok {env : Env} {sc : Scope} (hs : env.scope = sc) {pt pt2 : Pos} {kt k2 : Nat} {ts vs : List Expr} (h : noSw sc ts vs = true) : swappedStores [.Tuple ts kt pt] (.Tuple vs k2 pt2) env = pure none := by
  unfold noSw at h
  rw [Bool.or_eq_true] at h
  rcases h with h | h
  case inr =>
    rw [Bool.and_eq_true] at h
    unfold swappedStores
    dsimp only
    split
    · rfl
    · split
      · rfl
      · split
        · rfl
        · rw [if_pos h.2]
  simp only [Bool.and_eq_true, Bool.or_eq_true, beq_iff_eq, Bool.not_eq_true', List.any_eq_true] at h
  obtain ⟨hl, h⟩ := h
  unfold swappedStores
  dsimp only
  rcases h with ⟨h1, h2⟩ | ⟨t, ht, hh⟩
  · rw [if_pos (by simp only [h1, h2]; rfl)]
  · split
    · rfl
    · split
      · rfl
      · generalize hfm : List.filterMap _ ts = fm
        have lt : fm.length < ts.length := by
          rw [← hfm]
          refine filterMap_lt ⟨t, ht, ?_⟩
          cases t <;> try rfl
          rename_i x p
          have : (env.kindOf x == some NameKind.local) = false := by
            show (env.scope.names.lookup x == some .local) = false
            rw [hs]
            revert hh
            dsimp only
            cases sc.names.lookup x with
            | none => intro _; rfl
            | some k => cases k <;> first | (intro h; cases h; done) | (intro _; rfl)
          dsimp only
          rw [this]; rfl
        rw [if_pos (by rw [Bool.or_eq_true, bne_iff_ne]; exact .inl (Nat.ne_of_lt lt))]
section
variable {X : Cx} {F : Fc} {C : Ct} {T : Tab} {sc : Scope} {W : WX} {E : Xn → En → Prop}
theorem lt_of_gl (G : Gs X F C T sc W E) {σ : St} (hn : σ.length = X.N.length) : ∀ {l : List Nat} {es : List Expr}, mGl T (locB sc) none l es = true → ∀ i ∈ l, i < σ.length := by
  intro l
  induction l with
  | nil => intro es _ i hi; cases hi
  | cons j js ih =>
    intro es h i hi
    cases es with
    | nil => simp [mGl] at h
    | cons e es =>
      simp only [mGl, Bool.and_eq_true] at h
      rcases List.mem_cons.mp hi with rfl | hi
      · obtain ⟨x, p, rfl, h1, _⟩ := mGn_inv h.1
        exact slot_lt G.g hn h1
      · exact ih h.2 i hi
theorem s_parN (G : Gs X F C T sc W E) {is : List Nat} {xs : List Ex} {ts vs : List Expr} {pt pt2 pos : Pos} {kt k2 : Nat} (hg : mGl T (locB sc) none is ts = true) (hsw : noSw sc ts vs = true) (hsz : is.length ≤ sizeLine) (hes : PA X vs (lR F (wRs C xs E))) : PS X (.Assign [.Tuple ts kt pt] (.Tuple vs k2 pt2) pos) (lS F (wS C E (.par is xs))) := by
  have hpg : PG X (.Tuple ts kt pt) (gT X.K (.t is)) := pg_t G.tg G.g.calm (own := none) (by exact hg)
  refine PS.impL (ps_asg (pe_tup hes) hpg (by rfl) (noSw_ok G.g.sc hsw)) fun D σ H hn h => ?_
  obtain ⟨Hf, ρ, De, q, w, ends⟩ := h
  unfold wS at w
  refine ⟨Hf, ρ, q, wRs_mono G.g.mono xs E _ _ _ (fun rs ρ1 k vs Hf1 H1 S q1 rr => ?_) w⟩
  have hl : vs.length = is.length := by rw [rr.length, par_len k]
  refine ⟨by rw [hl]; exact hsz, fun p hp => ?_⟩
  refine .inl ⟨p, vs, rfl, .inl (.inl upd_same), hl, gNames_ok hl.symm ?_⟩
  exact par_end G (lt_of_gl G hn hg) q ends (S.newO hp) (q1.newO hp) (rr.step q S (Step.refl.newO hp)) k
theorem s_par3 (G : Gs X F C T sc W E) {i j l : Nat} {xs : List Ex} {x y z : Str} {px py pz pt pt2 pos : Pos} {kt k2 : Nat} {a b c : Expr} (hij : i ≠ j) (hil : i ≠ l) (hjl : j ≠ l) (hi : T.N[i]? = some x) (hj : T.N[j]? = some y) (hl : T.N[l]? = some z) (hsw : swap3 sc x y z px py pz a b c = true) (hes : PA X [a, b, c] (lR F (wRs C xs E))) : PS X (.Assign [.Tuple [.Name x px, .Name y py, .Name z pz] kt pt] (.Tuple [a, b, c] k2 pt2) pos) (lS F (wS C E (.par [i, j, l] xs))) := by
  have hsw' := hsw
  unfold swap3 at hsw'
  simp only [Bool.and_eq_true] at hsw'
  obtain ⟨⟨⟨⟨⟨⟨⟨⟨⟨⟨⟨⟨h1, h2⟩, h3⟩, _⟩, _⟩, _⟩, _⟩, _⟩, _⟩, _⟩, _⟩, _⟩, _⟩ := hsw'
  refine PS.impL (ps_par3 G.g.calm (by rw [G.g.N]; exact G.g.nd) (by rw [G.g.N]; exact hi) (by rw [G.g.N]; exact hj) (by rw [G.g.N]; exact hl) hij hil hjl (by rw [G.g.sc]; exact isLoc h1) (by rw [G.g.sc]; exact isLoc h2) (by rw [G.g.sc]; exact isLoc h3) hes (swap3_ok G.g.sc (by rw [← G.g.sc]; exact G.kind) hsw)) fun D σ H hn h => ?_
  obtain ⟨Hf, ρ, De, q, w, ends⟩ := h
  unfold wS at w
  refine ⟨Hf, ρ, q, wRs_mono G.g.mono xs E _ _ _ (fun rs ρ1 k vs Hf1 H1 S q1 rr => ?_) w⟩
  have hlt : ∀ m ∈ [i, j, l], m < σ.length := fun m hm => by
    simp at hm
    rcases hm with rfl | rfl | rfl
    · exact slot_lt G.g hn hi
    · exact slot_lt G.g hn hj
    · exact slot_lt G.g hn hl
  have hlen : vs.length = 3 := by rw [rr.length, par_len k]; rfl
  match vs, hlen with
  | [u, v, w'], _ => exact ⟨u, v, w', rfl, par_end G hlt q ends S q1 rr k⟩
/-- name = e -/
theorem s_asgS (G : Gs X F C T sc W E) {x : Ex} {i : Nat} {e : Expr} {y : Str} {py pos : Pos} (hc : swapsWith e (some (.Name y py)) pos.line X.env = pure false) (hy : T.N[i]? = some y) (hl : locB sc y = true) (he : PE X e (lE F (wE C x E))) : PS X (.Assign [.Name y py] e pos) (lS F (wS C E (.asg (.n i) x))) := by
  refine PS.impL (ps_set (i := i) (by rw [G.g.N]; exact G.g.nd) (by rw [G.g.N]; exact hy) (by rw [G.g.sc]; exact loc_of hl) he hc (.inl (G.fnA y))) fun D σ H hn h => ?_
  obtain ⟨Hf, ρ, De, q, w, ends⟩ := h
  unfold wS at w
  refine ⟨Hf, ρ, q, wE_mono G.g.mono x E _ _ _ (fun r ρ1 k v Hf1 H1 S q1 rr => ?_) w⟩
  obtain ⟨ρ2, Hf2, k2, q2, l2⟩ := asg_n_ok q S q1 rr (slot_lt G.g hn hy) k
  exact ends.nx _ _ _ _ q2 (S.le.trans l2) k2
def compNo (sc : Scope) (y : Str) : Expr → Bool
  | .ListComp _ _ _ _ => (match sc.names.lookup y with | some .local => false | _ => true)
  | _ => false
theorem compNo_ok (G : Gs X F C T sc W E) {y : Str} {py : Pos} {l : Nat} {e : Expr} (h : compNo sc y e = true) : swapsWith e (some (.Name y py)) l X.env = pure false := by
  cases e <;> try (cases h; done)
  have : (X.env.kindOf y == some NameKind.local) = false := by
    show (X.env.scope.names.lookup y == some .local) = false
    rw [G.g.sc]
    revert h
    unfold compNo
    dsimp only
    cases sc.names.lookup y with
    | none => intro _; rfl
    | some k => cases k <;> first | (intro h; cases h; done) | (intro _; rfl)
  unfold swapsWith
  dsimp only
  rw [this]
  simp only [Bool.and_false, Bool.false_and]
end
end RK
namespace RK
open PySem L2
/-! ## a walk over a list of the def's own, which stays its own: in the walk the slot is one of a fixed address -/
open Classical in
noncomputable def pinF (F : Fc) (i : Nat) (a : Addr) (H : Hp) : Fc :=
  { F with H0 := fun x => if x = a then H a else if (i, x) ∈ F.ios then H x else F.H0 x, ios := (i, a) :: F.ios.filter fun p => decide (p.1 ≠ i) }
/-- how it was when the walk began -/
structure PinOk (F : Fc) (i : Nat) (a : Addr) (Hs : Hp) : Prop where
  ex : ∃ Hf σ ρ ds, Rel F Hf Hs σ ρ ∧ ρ[i]? = some (.ow ds) ∧ σ[i]? = some (some (V.ref a))
section
variable {F : Fc} {Hf H Hs : Hp} {σ : St} {ρ : En} {i : Nat} {a : Addr} {ds : List D}
theorem PinOk.sl (P : PinOk F i a Hs) : Hs a ≠ none ∧ F.H0 a = none := by
  obtain ⟨Hf, σ, ρ, ds, q, e1, e2⟩ := P.ex
  obtain ⟨b, vs, k1, k2, k3, k4, k5⟩ := q.slot i _ e1
  rw [e2] at k1; cases k1
  exact ⟨by rw [k2]; exact (fun z => nomatch z), k5⟩
theorem PinOk.io (P : PinOk F i a Hs) {b : Addr} {j : Nat} (h : (j, b) ∈ F.ios) : Hs b ≠ none ∧ F.H0 b ≠ none ∧ F.Hf0 b = none := by
  obtain ⟨Hf, σ, ρ, ds, q, e1, e2⟩ := P.ex
  obtain ⟨k1, k2, k3⟩ := q.iok j b h
  refine ⟨k2, k3, ?_⟩
  cases e : F.Hf0 b with
  | none => rfl
  | some u => have := q.base b u e; rw [k1] at this; cases this
theorem pin_H0a : (pinF F i a Hs).H0 a = Hs a := by unfold pinF; simp
theorem pin_H0i {b : Addr} (h : b ≠ a) (h2 : (i, b) ∈ F.ios) : (pinF F i a Hs).H0 b = Hs b := by unfold pinF; simp [h, h2]
theorem pin_H0n {b : Addr} (h : b ≠ a) (h2 : (i, b) ∉ F.ios) : (pinF F i a Hs).H0 b = F.H0 b := by unfold pinF; simp [h, h2]
theorem pin_ios {j : Nat} {b : Addr} : (j, b) ∈ (pinF F i a Hs).ios ↔ (j = i ∧ b = a) ∨ (j ≠ i ∧ (j, b) ∈ F.ios) := by
  show (j, b) ∈ (i, a) :: F.ios.filter _ ↔ _
  rw [List.mem_cons, List.mem_filter, Prod.mk.injEq]
  simp only [decide_eq_true_eq]
  constructor
  · rintro (h | ⟨h1, h2⟩)
    · exact .inl h
    · exact .inr ⟨h2, h1⟩
  · rintro (h | ⟨h1, h2⟩)
    · exact .inl h
    · exact .inr ⟨h2, h1⟩
theorem own_seti {s : Sl} (hs : isOwn (some s) = isOwn ρ[i]?) (j : Nat) : isOwn (ρ.set i s)[j]? = isOwn ρ[j]? := by
  by_cases h : j = i
  · subst h
    by_cases hl : j < ρ.length
    · rw [List.getElem?_set_self hl, hs]
    · rw [List.getElem?_eq_none (by rw [List.length_set]; omega), List.getElem?_eq_none (by omega)]
  · rw [set_ne h]
/-- into the walk -/
theorem Rel.pin (q : Rel F Hf Hs σ ρ) (e1 : ρ[i]? = some (.ow ds)) (e2 : σ[i]? = some (some (V.ref a))) : Rel (pinF F i a Hs) Hf Hs σ (ρ.set i (.io ds)) := by
  have P : PinOk F i a Hs := ⟨Hf, σ, ρ, ds, q, e1, e2⟩
  obtain ⟨b0, vs, k1, k2, k3, k4, k5⟩ := q.slot i _ e1
  rw [e2] at k1; cases k1
  have hil : i < ρ.length := (List.getElem?_eq_some_iff.mp e1).1
  refine ⟨by rw [List.length_set]; exact q.len, q.sub, q.base, fun b o h1 h2 h3 => ?_, fun j b h => ?_, fun j s e => ?_, fun j k b hjk hj hk ej ek => ?_⟩
  · have hb : b ≠ a := fun z => h3 i (pin_ios.mpr (.inl ⟨rfl, z⟩))
    by_cases hi : (i, b) ∈ F.ios
    · rw [pin_H0i hb hi] at h1
      exact ⟨h1, (q.iok i b hi).1⟩
    · rw [pin_H0n hb hi] at h1
      refine q.keep b o h1 h2 fun j hj => ?_
      by_cases hji : j = i
      · subst hji; exact hi hj
      · exact h3 j (pin_ios.mpr (.inr ⟨hji, hj⟩))
  · rcases pin_ios.mp h with ⟨rfl, rfl⟩ | ⟨h1, h2⟩
    · refine ⟨k3, by rw [k2]; exact (fun z => nomatch z), ?_⟩
      rw [pin_H0a, k2]; exact (fun z => nomatch z)
    · obtain ⟨a1, a2, a3⟩ := q.iok j b h2
      refine ⟨a1, a2, ?_⟩
      have hb : b ≠ a := fun z => by subst z; exact a3 k5
      by_cases hi : (i, b) ∈ F.ios
      · rw [pin_H0i hb hi]; exact a2
      · rw [pin_H0n hb hi]; exact a3
  · by_cases hj : j = i
    · subst hj
      rw [List.getElem?_set_self hil] at e
      cases e
      exact ⟨a, vs, e2, k2, k3, k4, pin_ios.mpr (.inl ⟨rfl, rfl⟩)⟩
    · rw [set_ne hj] at e
      have sl := q.slot j s e
      cases s with
      | no => trivial
      | v d => exact sl
      | ow ds' =>
        obtain ⟨b, ws, c1, c2, c3, c4, c5⟩ := sl
        refine ⟨b, ws, c1, c2, c3, c4, ?_⟩
        have hb : b ≠ a := fun z => by
          subst z
          exact q.dist j i b hj (by rw [e]; rfl) (by rw [e1]; rfl) c1 e2
        have hi : (i, b) ∉ F.ios := fun z => (q.iok i b z).2.2 c5
        rw [pin_H0n hb hi]; exact c5
      | io ds' =>
        obtain ⟨b, ws, c1, c2, c3, c4, c5⟩ := sl
        exact ⟨b, ws, c1, c2, c3, c4, pin_ios.mpr (.inr ⟨hj, c5⟩)⟩
  · have ho : isOwn (some (Sl.io ds)) = isOwn ρ[i]? := by rw [e1]; rfl
    rw [own_seti ho] at hj hk
    exact q.dist j k b hjk hj hk ej ek
/-- out of it: the slot is forgotten, or own again -/
theorem Rel.unpin (P : PinOk F i a Hs) (q : Rel (pinF F i a Hs) Hf H σ ρ) {s : Sl} (hs : s = .no ∨ (s = .ow ds ∧ ρ[i]? = some (.io ds))) : Rel F Hf H σ (ρ.set i s) := by
  obtain ⟨p1, p2⟩ := P.sl
  have ho : ∀ j : Nat, isOwn (ρ.set i s)[j]? = true → isOwn ρ[j]? = true := by
    intro j h
    by_cases hj : j = i
    · subst hj
      by_cases hl : j < ρ.length
      · rw [List.getElem?_set_self hl] at h
        rcases hs with rfl | ⟨rfl, e⟩
        · cases h
        · rw [e]; rfl
      · rw [List.getElem?_eq_none (by rw [List.length_set]; omega)] at h; cases h
    · rw [set_ne hj] at h; exact h
  have H0of : ∀ b, (pinF F i a Hs).H0 b = none → F.H0 b = none := by
    intro b h
    by_cases hb : b = a
    · subst hb; exact p2
    · by_cases hi : (i, b) ∈ F.ios
      · rw [pin_H0i hb hi] at h
        exact absurd h (P.io hi).1
      · rw [pin_H0n hb hi] at h; exact h
  refine ⟨by rw [List.length_set]; exact q.len, q.sub, q.base, fun b o h1 h2 h3 => ?_, fun j b h => ?_, fun j s' e => ?_, fun j k b hjk hj hk ej ek => q.dist j k b hjk (ho j hj) (ho k hk) ej ek⟩
  · have hb : b ≠ a := fun z => by subst z; rw [p2] at h1; cases h1
    refine q.keep b o (by rw [pin_H0n hb (h3 i)]; exact h1) h2 fun j hj => ?_
    rcases pin_ios.mp hj with ⟨_, z⟩ | ⟨_, z⟩
    · exact hb z
    · exact h3 j z
  · obtain ⟨o1, o2, o3⟩ := P.io h
    by_cases hk : ∃ k, (k, b) ∈ (pinF F i a Hs).ios
    · obtain ⟨k, hk⟩ := hk
      obtain ⟨a1, a2, _⟩ := q.iok k b hk
      exact ⟨a1, a2, o2⟩
    · have hb : b ≠ a := fun z => hk ⟨i, pin_ios.mpr (.inl ⟨rfl, z⟩)⟩
      have hji : j = i := by
        apply Classical.byContradiction
        intro z
        exact hk ⟨j, pin_ios.mpr (.inr ⟨z, h⟩)⟩
      subst hji
      cases eo : Hs b with
      | none => exact absurd eo o1
      | some o =>
        obtain ⟨a1, a2⟩ := q.keep b o (by rw [pin_H0i hb h]; exact eo) o3 fun k z => hk ⟨k, z⟩
        exact ⟨a2, by rw [a1]; exact (fun z => nomatch z), o2⟩
  · by_cases hj : j = i
    · subst hj
      have hl : j < ρ.length := by
        have := (List.getElem?_eq_some_iff.mp e).1
        rw [List.length_set] at this; exact this
      rw [List.getElem?_set_self hl] at e
      cases e
      rcases hs with rfl | ⟨rfl, e⟩
      · trivial
      · obtain ⟨b, ws, c1, c2, c3, c4, c5⟩ := q.slot j _ e
        rcases pin_ios.mp c5 with ⟨_, rfl⟩ | ⟨z, _⟩
        · exact ⟨b, ws, c1, c2, c3, c4, p2⟩
        · exact absurd rfl z
    · rw [set_ne hj] at e
      have sl := q.slot j s' e
      cases s' with
      | no => trivial
      | v d => exact sl
      | ow ds' =>
        obtain ⟨b, ws, c1, c2, c3, c4, c5⟩ := sl
        exact ⟨b, ws, c1, c2, c3, c4, H0of b c5⟩
      | io ds' =>
        obtain ⟨b, ws, c1, c2, c3, c4, c5⟩ := sl
        rcases pin_ios.mp c5 with ⟨z, _⟩ | ⟨_, z⟩
        · exact absurd z hj
        · exact ⟨b, ws, c1, c2, c3, c4, z⟩
end
section
variable {X : Cx} {F : Fc} {C : Ct} {T : Tab} {sc : Scope} {W : WX} {E : Xn → En → Prop}
def jO (K : PySem.W.Frag) (en : Bool) (a : Addr) : It := if en = true then Ite K a else Itl K a
def oI (F : Fc) (K : PySem.W.Frag) (i : Nat) (en : Bool) : TI := fun σ H R => ∃ Hf ρ ds, Rel F Hf H σ ρ ∧ ρ[i]? = some (.ow ds) ∧ ∀ Hf1 H1 a, Rel F Hf1 H1 σ ρ → Le Hf Hf1 → σ[i]? = some (some (V.ref a)) → R (jO K en a) H1
theorem o_e (G : Gd X F C T sc W E) {i : Nat} {x : Str} {tg : Expr} {pos : Pos} (h1 : T.N[i]? = some x) (h2 : visB sc x = true) (h3 : okN x = true) : PI X tg (.Name x pos) (oI F X.K i false) := by
  refine pi_imp (pi_seq (n_v G h1 h2 h3)) fun σ H R h => ?_
  obtain ⟨Hf, ρ, ds, q, e, k⟩ := h
  refine ⟨Hf, ρ, q, ?_⟩
  unfold wE
  simp only [e]
  intro v Hf1 H1 S q1 rr
  obtain ⟨r1, _⟩ := rr
  obtain ⟨a, vs, c1, c2, c3, c4, c5⟩ := q1.slot i _ e
  rw [r1] at c1; cases c1
  exact ⟨a, rfl, .inl ⟨vs, .inl (.inl c2), k Hf1 H1 a q1 S.le r1⟩⟩
theorem o_en (G : Gd X F C T sc W E) {i : Nat} {x : Str} {elts : List Expr} {kk : Nat} {tpos p pos pos' : Pos} (hg : glB sc "enumerate" = true) (h1 : T.N[i]? = some x) (h2 : visB sc x = true) (h3 : okN x = true) : PI X (.Tuple elts kk tpos) (.Call (.Name "enumerate" p) [.Name x pos'] [] pos) (oI F X.K i true) := by
  have hmg : X.mg "enumerate" = none := G.blt _ (by decide)
  have n1 : noStar (.Name x pos') = true := rfl
  refine pi_imp (pi_enA (gl_of G.sc hg) hmg (n_cons G n1 (n_v G h1 h2 h3) n_nil) (starEach_ns n1)) fun σ H R h => ?_
  obtain ⟨Hf, ρ, ds, q, e, k⟩ := h
  refine ⟨Hf, ρ, q, ?_⟩
  unfold wRs wE
  simp only [e]
  unfold wRs
  intro vs Hf1 H1 S q1 rr
  obtain ⟨v, _, rfl, e1, rr⟩ := rr.one rfl
  cases e1
  obtain ⟨r1, _⟩ := rr
  obtain ⟨a, ws, c1, c2, c3, c4, c5⟩ := q1.slot i _ e
  rw [r1] at c1; cases c1
  exact ⟨a, _, rfl, .inl ⟨.inl (.inl c2), k Hf1 H1 a q1 S.le r1⟩⟩
theorem Gs.pin (G : Gs X F C T sc W E) {i : Nat} {p : Addr} {Hs : Hp} (P : PinOk F i p Hs) : Gs X (pinF F i p Hs) C T sc W (fun x ρ' => E x (ρ'.set i .no)) :=
  ⟨⟨G.g.K, G.g.calm, G.g.N, G.g.nd, G.g.sc, G.g.units, G.g.mono, fun f h => ⟨(G.g.fns f h).ex⟩, G.g.glb, G.g.blt, G.g.tk, fun x ρ Hf H σ cls dd q e r => G.g.we x _ Hf H σ cls dd (Rel.unpin (ds := []) P q (.inl rfl)) e r⟩, G.po, G.fnA, G.kind⟩
theorem jO_go {K : PySem.W.Frag} {F : Fc} (hK : K = F.K) {en : Bool} {a : Addr} {Hf H : Hp} {vs : List V} {ds : List D} {k : Nat} (e : H a = some (.lst vs)) (r : Reps F.K F.fa Hf vs ds) (h : k < (itemsO en ds).length) : (jO K en a).go k H := by
  unfold itemsO at h
  cases en with
  | false =>
    have h : k < ds.length := h
    have h' : k < vs.length := by rw [r.length]; exact h
    exact ⟨vs, vs[k], .inl (.inl e), by simp [h']⟩
  | true =>
    have h : k < (enumL 0 ds).length := h
    rw [enumL_len] at h
    have h' : k < vs.length := by rw [r.length]; exact h
    exact ⟨vs, vs[k], .inl (.inl e), by simp [h']⟩
theorem jO_stop {K : PySem.W.Frag} {F : Fc} (hK : K = F.K) {en : Bool} {a : Addr} {Hf H : Hp} {vs : List V} {ds : List D} {k : Nat} (e : H a = some (.lst vs)) (r : Reps F.K F.fa Hf vs ds) (h : (itemsO en ds).length ≤ k) : (jO K en a).stop k H := by
  unfold itemsO at h
  cases en with
  | false =>
    have h : ds.length ≤ k := h
    exact ⟨vs, .inl (.inl e), by rw [r.length]; exact h⟩
  | true =>
    have h : (enumL 0 ds).length ≤ k := h
    rw [enumL_len] at h
    exact ⟨vs, .inl (.inl e), by rw [r.length]; exact h⟩
theorem jO_yld {K : PySem.W.Frag} {F : Fc} (hK : K = F.K) {en : Bool} {a : Addr} {Hf H H' : Hp} {vs : List V} {ds : List D} {k : Nat} {x : V} (e : H a = some (.lst vs)) (r : Reps F.K F.fa Hf vs ds) (y : (jO K en a).yld k H x H') : ∃ d, (itemsO en ds)[k]? = some d ∧ ((H' = H ∧ Rep F.K F.fa Hf x d) ∨ (∃ p us es, x = .ref p ∧ d = .tup es ∧ H p = none ∧ H' = upd H p (.tup us) ∧ Reps F.K F.fa Hf us es)) := by
  unfold itemsO
  cases en with
  | false =>
    obtain ⟨e1, y⟩ := y
    obtain ⟨d, h1, h2⟩ := r.getV (y vs (.inl (.inl e)))
    exact ⟨d, h1, .inl ⟨e1, h2⟩⟩
  | true =>
    obtain ⟨T, u, rfl, hT, hH, k1⟩ := y
    obtain ⟨d, g1, g2⟩ := r.getV (k1 vs (.inl (.inl e)))
    refine ⟨_, enumL_get g1, .inr ⟨T, _, _, rfl, rfl, hT, hH, .cons ?_ (.cons g2 .nil)⟩⟩
    rw [Nat.zero_add]; exact .int _
theorem s_forO (G : Gs X F C T sc W E) {t : Tg} {en : Bool} {i : Nat} {a : List Sm} {tge iter : Expr} {ae : List Stmt} {pos : Pos} (hns : noSet iter = true) (hg : mG T (locB sc) none t tge = true) (hi : PI X tge iter (oI F X.K i en)) (ha : ∀ (p : Addr) (Hs : Hp), PinOk F i p Hs → PSs X ae (lS (pinF F i p Hs) (wSs C (fun x ρ' => E x (ρ'.set i .no)) a))) : PS X (.For tge iter ae [] pos) (lS F (wS C E (.forO t en i a))) := by
  have hfs : ∀ x, foldedSetIterable iter X.env x = pure x := by intro x; cases iter <;> first | rfl | cases hns
  have ha' : PSs X ae (fun D σ H => ∃ p Hs, PinOk F i p Hs ∧ lS (pinF F i p Hs) (wSs C (fun x ρ' => E x (ρ'.set i .no)) a) D σ H) := ⟨fun pins s σ H D I ⟨p, Hs, P, q⟩ => (ha p Hs P).run pins s σ H D I q⟩
  refine PS.impL (ps_for G.po G.g.calm hi (pg_t G.tg G.g.calm hg) (pss_len ha') hfs) fun D σ H hn h => ?_
  obtain ⟨Hf, ρ, De, q, w, ends⟩ := h
  unfold wS at w
  cases hs : ρ[i]? with
  | none => rw [hs] at w; exact w.elim
  | some s =>
    cases s with
    | no => rw [hs] at w; exact w.elim
    | v d => rw [hs] at w; exact w.elim
    | io ds => rw [hs] at w; exact w.elim
    | ow ds =>
      simp only [hs] at w
      refine ⟨Hf, ρ, ds, q, hs, fun Hf1 H1 p q1 l1 ep => ?_⟩
      have P : PinOk F i p H1 := ⟨Hf1, σ, ρ, ds, q1, hs, ep⟩
      have q1' := q1.pin hs ep
      have tlt := mG_lt hg
      let nx : En → Prop := fun ρ' => ρ'[i]? = some (.io ds) ∧ De.nx (ρ'.set i (.ow ds))
      let step : RK.D → En → (En → Prop) → Prop := fun d ρ2 k => ρ2[i]? = some (.io ds) ∧ asgT t (.v d) ρ2 fun ρ3 => wSs C (fun x ρ' => E x (ρ'.set i .no)) a ⟨k, fun r ρ' => (match r with
        | .v d => De.rt (.v d) (ρ'.set i .no)
        | _ => False), fun ρ' => ρ'[i]? = some (.io ds) ∧ De.nx (ρ'.set i (.ow ds)), k⟩ ρ3
      refine ⟨fun k m σ H => m = (itemsO en ds).length - k ∧ k ≤ (itemsO en ds).length ∧ σ.length = X.N.length ∧ ∃ Hf2 ρ2, Rel (pinF F i p H1) Hf2 H σ ρ2 ∧ Le Hf Hf2 ∧ forL step ((itemsO en ds).drop k) ρ2 nx, ⟨_, rfl, Nat.zero_le _, hn, Hf1, ρ.set i (.io ds), q1', l1, w⟩, ?_⟩
      rintro k m σ2 H2 ⟨rfl, hil, hlen, Hf2, ρ2, q2, l2, kk⟩
      have hio : ρ2[i]? = some (.io ds) := by
        cases hd : (itemsO en ds).drop k with
        | nil => rw [hd] at kk; exact kk.1
        | cons d r => rw [hd] at kk; exact kk.1
      obtain ⟨b, vs, c1, c2, c3, c4, c5⟩ := q2.slot i _ hio
      have hb : b = p := by
        rcases pin_ios.mp c5 with ⟨_, z⟩ | ⟨z, _⟩
        · exact z
        · exact absurd rfl z
      subst hb
      by_cases hlt : k < (itemsO en ds).length
      case neg =>
        have hie : k = (itemsO en ds).length := by omega
        refine .inl ⟨jO_stop G.g.K c2 c4 (by omega), ?_⟩
        rw [hie, List.drop_length] at kk
        exact ends.nx _ _ _ _ (q2.unpin P (.inr ⟨rfl, hio⟩)) l2 kk.2
      refine .inr ⟨jO_go G.g.K c2 c4 hlt, fun σ' H' => σ'.length = X.N.length ∧ ∃ Hf3 ρ3, Rel (pinF F i b H1) Hf3 H' σ' ρ3 ∧ Le Hf Hf3 ∧ forL step ((itemsO en ds).drop (k + 1)) ρ3 nx, fun σ' H' ⟨h0, h⟩ => ⟨_, by omega, rfl, hlt, h0, h⟩, fun x Hy hy => ?_⟩
      obtain ⟨d, hd, hx⟩ := jO_yld G.g.K c2 c4 hy
      have hdrop : (itemsO en ds).drop k = d :: (itemsO en ds).drop (k + 1) := by
        obtain ⟨h1, h2⟩ := List.getElem?_eq_some_iff.mp hd
        rw [← h2]
        exact List.drop_eq_getElem_cons h1
      rw [hdrop] at kk
      obtain ⟨Hf3, q3, l3, r3⟩ : ∃ Hf3, Rel (pinF F i b H1) Hf3 Hy σ2 ρ2 ∧ Le Hf2 Hf3 ∧ Rep F.K F.fa Hf3 x d := by
        rcases hx with ⟨rfl, r⟩ | ⟨p', us, es, rfl, rfl, hp, rfl, r⟩
        · exact ⟨Hf2, q2, Le.refl _, r⟩
        · have lf := le_upd (o := HO.tup us) (q2.none_f hp)
          exact ⟨upd Hf2 p' (.tup us), q2.laid hp, lf, .tup (.inl (.inl upd_same)) (Reps.le lf r)⟩
      have kk : step d ρ2 (fun ρ' => forL step ((itemsO en ds).drop (k + 1)) ρ' nx) := kk
      refine asgT_v (X := X) (F := pinF F i b H1) G.g.K q3 (fun j hj => by rw [hlen, G.g.N]; exact tlt j hj) r3 kk.2 fun ρ3 us k3 hus q4 _ _ => ?_
      have l4 : Le Hf Hf3 := l2.trans l3
      refine ⟨b, H1, P, Hf3, ρ3, _, q4, k3, ⟨fun ρ' σ' Hf' H' q' l k hl' => ⟨hl', Hf', ρ', q', l4.trans l, k⟩, fun r ρ' σ' v Hf' H' q' l rr k => ?_, fun ρ' σ' Hf' H' q' l k hl' => ends.nx _ _ _ _ (q'.unpin P (.inr ⟨rfl, k.1⟩)) (l4.trans l) k.2, fun ρ' σ' Hf' H' q' l k hl' => ⟨hl', Hf', ρ', q', l4.trans l, k⟩⟩⟩
      cases r with
      | v d => exact ends.rt (.v d) _ σ' v Hf' H' (Rel.unpin (ds := []) P q' (.inl rfl)) (l4.trans l) rr k
      | b j => exact k.elim
      | f ds => exact k.elim
end
end RK
namespace RK
open PySem L2
abbrev veB : List Value := [.type "ValueError", .type "Exception", .type "BaseException", .type "object"]
structure ExcE (K : PySem.W.Frag) (mg : Str → Option Value) (fa : Nat → Addr) (T : Tab) (k : Nat) : Prop where
  q : PySem.W.excIn K (fa k) veB "ValueError.__new__" = true
  g : mg (T.fn k) = some (.ref (fa k))
  kp : PySem.W.keepIn K (.ref (fa k)) = true
  sb : PySem.W.subIn K (.ref (fa k)) (.type "BaseException") = some true
  ty : PySem.W.typeIn K (.ref (fa k)) = some (.type "type")
section
variable {X : Cx} {F : Fc} {C : Ct} {T : Tab} {sc : Scope} {W : WX} {E : Xn → En → Prop}
theorem s_rai (G : Gs X F C T sc W E) {k : Nat} {m : Str} {p p2 pos pos2 : Pos} {j : Nat} (hx : ExcE X.K X.mg F.fa T k) (hg : glB sc (T.fn k) = true) (ho : okN (T.fn k) = true) : PS X (.Raise (some (.Call (.Name (T.fn k) p) [.Constant (.str m) j p2] [] pos)) none pos2) (lS F (wS C E (.rai k m))) := by
  refine PS.impL (ps_raise G.g.calm G.g.tk (pmk_own PySem.F.excBase_ValueError hx.q hx.g hx.kp (raises_own hx.sb hx.ty) (gl_of G.g.sc hg) (okN_of ho).1)) fun D σ H hn h => ?_
  obtain ⟨Hf, ρ, De, q, w, ends⟩ := h
  unfold wS at w
  exact G.g.we _ ρ Hf H σ _ none q w ⟨rfl, fun a r z => nomatch z⟩
end
/-! ### slots are forgotten -/
theorem fgE_len : ∀ (m : List Bool) (ρ : En), (fgE m ρ).length = ρ.length
  | [], ρ => by cases ρ <;> rfl
  | true :: m, [] => rfl
  | false :: m, [] => rfl
  | true :: m, s :: ρ => by simp only [fgE, List.length_cons, fgE_len m ρ]
  | false :: m, s :: ρ => by simp only [fgE, List.length_cons, fgE_len m ρ]
theorem fgE_get : ∀ (m : List Bool) (ρ : En) (i : Nat) (s : Sl), (fgE m ρ)[i]? = some s → s = .no ∨ ρ[i]? = some s
  | [], ρ, i, s, h => by cases ρ <;> exact .inr h
  | true :: m, [], i, s, h => by simp [fgE] at h
  | false :: m, [], i, s, h => by simp [fgE] at h
  | true :: m, u :: ρ, 0, s, h => by
    simp only [fgE, List.getElem?_cons_zero, Option.some.injEq] at h
    subst h
    cases u <;> first | exact .inl rfl | exact .inr rfl
  | true :: m, u :: ρ, i + 1, s, h => by
    simp only [fgE, List.getElem?_cons_succ] at h ⊢
    exact fgE_get m ρ i s h
  | false :: m, u :: ρ, 0, s, h => .inr h
  | false :: m, u :: ρ, i + 1, s, h => by
    simp only [fgE, List.getElem?_cons_succ] at h ⊢
    exact fgE_get m ρ i s h
theorem Rel.fg {F : Fc} {Hf H : Hp} {σ : St} {ρ : En} (q : Rel F Hf H σ ρ) (m : List Bool) : Rel F Hf H σ (fgE m ρ) where
  len := by rw [fgE_len]; exact q.len
  sub := q.sub
  base := q.base
  keep := q.keep
  iok := q.iok
  slot := fun i s hs => by
    rcases fgE_get m ρ i s hs with rfl | h
    · trivial
    · exact q.slot i s h
  dist := fun i j a hij hi hj => by
    have own : ∀ i : Nat, isOwn (fgE m ρ)[i]? = true → isOwn ρ[i]? = true := fun i h => by
      cases e : (fgE m ρ)[i]? with
      | none => rw [e] at h; cases h
      | some s =>
        rcases fgE_get m ρ i s e with rfl | h'
        · rw [e] at h; cases h
        · rw [h', ← e]; exact h
    exact q.dist i j a hij (own i hi) (own j hj)
theorem s_fg {X : Cx} {F : Fc} {C : Ct} {E : Xn → En → Prop} {s : Sm} {st : Stmt} {pre post : List Bool} (h : PS X st (lS F (wS C E s))) : PS X st (lS F (wS C E (.fg pre post s))) := by
  refine PS.impL h fun D σ H hn h => ?_
  obtain ⟨Hf, ρ, De, q, w, ends⟩ := h
  unfold wS at w
  refine ⟨Hf, fgE pre ρ, _, q.fg pre, w, ⟨fun ρ' σ' Hf' H' q' l' k => ?_, fun r ρ' σ' v Hf' H' q' l' rr k => ?_, fun ρ' σ' Hf' H' q' l' k => ?_, fun ρ' σ' Hf' H' q' l' k => ?_⟩⟩
  · exact ends.nx _ _ _ _ (q'.fg post) l' k
  · exact ends.rt _ _ _ _ _ _ q' l' rr k
  · exact ends.bk _ _ _ _ q' l' k
  · exact ends.ct _ _ _ _ (q'.fg post) l' k
def compSw (sc : Scope) (y : Str) (py : Pos) : Expr → Bool
  | .ListComp _ _ scope pos => (match sc.names.lookup y with | some .local => true | _ => false) && (py.line == pos.line) && !(scope.names.any fun (n, k) => n == y && (k == .local || k == .cell))
  | _ => false
def tupNo : Expr → Bool
  | .Tuple vs _ _ => vs.all (foldedForSure 8) && vs.all noStar && vs.all (fun e => match e with | .Constant _ _ _ => true | _ => false)
  | _ => true
section
variable (T : Tab)
def mPar (is : List Nat) (xs : List Ex) (sc : Scope) (st : Stmt) : Bool := match is, st with
  | [i, j], .Assign [.Tuple [.Name x px, .Name y py] _ _] (.Tuple [a, b] _ _) _ =>
      (decide (i ≠ j) && T.N[i]? == some x && T.N[j]? == some y && swap2 sc x y px py a b && mEs T xs sc [a, b]) ||
      (mGl T (locB sc) none [i, j] [.Name x px, .Name y py] && noSw sc [.Name x px, .Name y py] [a, b] && mEs T xs sc [a, b])
  | [i, j, l], .Assign [.Tuple [.Name x px, .Name y py, .Name z pz] _ _] (.Tuple [a, b, c] _ _) _ =>
      (decide (i ≠ j) && decide (i ≠ l) && decide (j ≠ l) && T.N[i]? == some x && T.N[j]? == some y && T.N[l]? == some z && swap3 sc x y z px py pz a b c && mEs T xs sc [a, b, c]) ||
      (mGl T (locB sc) none [i, j, l] [.Name x px, .Name y py, .Name z pz] && noSw sc [.Name x px, .Name y py, .Name z pz] [a, b, c] && mEs T xs sc [a, b, c])
  | is, .Assign [.Tuple ts _ _] (.Tuple vs _ _) _ => mGl T (locB sc) none is ts && noSw sc ts vs && decide (is.length ≤ 1000) && mEs T xs sc vs
  | _, _ => false
def mOw : Bool → Nat → Expr → Scope → Expr → Bool
  | false, i, _, sc, .Name x _ => T.N[i]? == some x && visB sc x && okN x
  | true, i, .Tuple _ _ _, sc, .Call (.Name f _) [.Name x _] [] _ => f == ("enumerate" : Str) && glB sc f && (T.N[i]? == some x && visB sc x && okN x)
  | _, _, _, _, _ => false
def mRai (k : Nat) (m : Str) (sc : Scope) (st : Stmt) : Bool := match st with
  | .Raise (some (.Call (.Name x _) [.Constant (.str n) _ _] [] _)) none _ => x == T.fn k && n == m && glB sc x && okN x && decide (T.x0 ≤ k) && decide (k < T.nx)
  | _ => false
mutual
def mS : Sm → Scope → Stmt → Bool
  | .asg (.n i) x, sc, .Assign [.Name y py] e _ => mE T x sc e && T.N[i]? == some y && locB sc y && (notComp e || compSw sc y py e || compNo sc y e)
  | .asg (.t l) x, sc, .Assign [.Tuple es _ _] e _ => mE T x sc e && mGl T (locB sc) none l es && (match e with | .Tuple _ _ _ => false | _ => true)
  | .par is xs, sc, st => mPar T is xs sc st
  | .aug i op x, sc, .AugAssign (.Name y _) o e _ => decide (op = .add) && decide (o = .Add) && T.N[i]? == some y && locB sc y && mE T x sc e
  | .sti xo xi x, sc, .Assign [.Subscript o i _] e _ => noSlice i && notComp e && mE T xo sc o && mE T xi sc i && mE T x sc e
  | .ex x, sc, .Expr e _ => notComp e && mE T x sc e
  | .ifs c a b, sc, .If ce ae be _ => mE T c sc ce && mSs a sc ae && mSs b sc be
  | .whil c a, sc, .While ce ae [] _ => mE T c sc ce && mSs a sc ae
  | .for_ t it a, sc, .For tge iter ae [] _ => noSet iter && mG T (locB sc) none t tge && mI T it tge sc iter && mSs a sc ae
  | .forO t en i a, sc, .For tge iter ae [] _ => noSet iter && mG T (locB sc) none t tge && mOw T en i tge sc iter && mSs a sc ae
  | .ret x, sc, .Return (some e) _ => mE T x sc e
  | .brk, _, .Break _ => true
  | .cnt, _, .Continue _ => true
  | .pass, _, .Pass _ => true
  | .rai k m, sc, st => mRai T k m sc st
  | .fg _ _ s, sc, st => mS s sc st
  | _, _, _ => false
def mSs : List Sm → Scope → List Stmt → Bool
  | [], _, [] => true
  | s :: ss, sc, st :: sts => mS s sc st && mSs ss sc sts
  | _, _, _ => false
end
end
section
variable {X : Cx} {F : Fc} {C : Ct} {T : Tab} {sc : Scope} {W : WX} {E : Xn → En → Prop}
def flat : Sm → Bool
  | .ifs _ _ _ => false
  | .whil _ _ => false
  | .for_ _ _ _ => false
  | .forO _ _ _ _ => false
  | .fg _ _ _ => false
  | _ => true
theorem sFl (G : Gs X F C T sc W E) (hx : ∀ k, T.x0 ≤ k → k < T.nx → ExcE X.K X.mg F.fa T k) : ∀ (s : Sm) {st : Stmt}, flat s = true → mS T s sc st = true → PS X st (lS F (wS C E s))
  | .asg (.n i) x, st, _, h => by
    cases st <;> try (simp [mS] at h; done)
    rename_i tgs e pos
    cases tgs with
    | nil => simp [mS] at h
    | cons tg0 tgs =>
    cases tgs with
    | cons _ _ => cases tg0 <;> exact nomatch (show false = true from h)
    | nil =>
      cases tg0 <;> try (simp [mS] at h; done)
      rename_i y py
      simp only [mS, Bool.and_eq_true, beq_iff_eq, Bool.or_eq_true] at h
      obtain ⟨⟨⟨h1, h2⟩, h3⟩, h4⟩ := h
      by_cases hc : notComp e = true
      · exact s_asgN G hc h2 h3 (sE x G.g h1).1
      by_cases hd : compNo sc y e = true
      · exact s_asgS G (compNo_ok G hd) h2 h3 (sE x G.g h1).1
      · replace h4 := (h4.resolve_right hd).resolve_left hc
        cases e <;> try (simp [compSw] at h4; done)
        rename_i e0 gs scope epos
        simp only [compSw, Bool.and_eq_true, Bool.not_eq_true'] at h4
        obtain ⟨⟨g1, g2⟩, g3⟩ := h4
        have yl : sc.names.lookup y = some .local := by
          revert g1; cases sc.names.lookup y with
          | none => simp
          | some k => cases k <;> simp
        cases x <;> try (simp [mE, revOf, rgvOf] at h1; done)
        rename_i elt tg it ifs own _
        cases gs with
        | nil => simp [mE] at h1
        | cons g0 gs =>
        cases gs with
        | cons _ _ => simp [mE] at h1
        | nil =>
          obtain ⟨t, i0, fs, z⟩ := g0
          simp only [mE, Bool.and_eq_true, decide_eq_true_eq] at h1
          obtain ⟨⟨⟨⟨⟨⟨rfl, k1⟩, k2⟩, k3⟩, k4⟩, k5⟩, k6⟩ := h1
          obtain ⟨tt, a, b⟩ := n_setComp (pos := epos) (py := py) (spos := pos) G.g k1 k3 k4 (sI it G.g k2) (fun s H Cl cl fp => sTs ifs (G.g.blk s H _ cl Cl fp) k5) (fun s H Cl cl fp => (sE elt (G.g.blk s H _ cl Cl fp) k6).1) h2 yl
            (sw_true G.kind (by rw [G.g.sc]; exact yl) g2 g3)
          exact s_asgC G h2 a b
  | .asg (.t l) x, st, _, h => by
    cases st <;> try (simp [mS] at h; done)
    rename_i tgs e pos
    cases tgs with
    | nil => simp [mS] at h
    | cons tg0 tgs =>
    cases tgs with
    | cons _ _ => cases tg0 <;> exact nomatch (show false = true from h)
    | nil =>
      cases tg0 <;> try (simp [mS] at h; done)
      simp only [mS, Bool.and_eq_true] at h
      obtain ⟨⟨h1, h2⟩, h3⟩ := h
      refine s_asgT G h2 ?_ ?_ (sE x G.g h1).1
      · unfold swapsWithSole
        cases e <;> rfl
      · unfold swappedStores
        cases e <;> first | (cases h3; done) | rfl
  | .par is xs, st, _, h => by
    replace h : mPar T is xs sc st = true := by simpa only [mS] using h
    unfold mPar at h
    split at h
    · simp only [Bool.or_eq_true, Bool.and_eq_true, decide_eq_true_eq, beq_iff_eq] at h
      rcases h with ⟨⟨⟨⟨h1, h2⟩, h3⟩, h4⟩, h5⟩ | ⟨⟨h1, h2⟩, h3⟩
      · exact s_par2 G h1 h2 h3 h4 (sRs xs G.g h5)
      · exact s_parN G h1 h2 (by show 2 ≤ sizeLine; decide) (sRs xs G.g h3)
    · simp only [Bool.or_eq_true, Bool.and_eq_true, decide_eq_true_eq, beq_iff_eq] at h
      rcases h with ⟨⟨⟨⟨⟨⟨⟨h1, h2⟩, h3⟩, h4⟩, h5⟩, h6⟩, h7⟩, h8⟩ | ⟨⟨h1, h2⟩, h3⟩
      · exact s_par3 G h1 h2 h3 h4 h5 h6 h7 (sRs xs G.g h8)
      · exact s_parN G h1 h2 (by show 3 ≤ sizeLine; decide) (sRs xs G.g h3)
    · simp only [Bool.and_eq_true, decide_eq_true_eq] at h
      obtain ⟨⟨⟨h1, h2⟩, h3⟩, h4⟩ := h
      exact s_parN G h1 h2 (Nat.le_of_lt (small1000 h3)) (sRs xs G.g h4)
    · cases h
  | .aug i op x, st, _, h => by
    cases st <;> try (simp [mS] at h; done)
    rename_i tg o e pos
    cases tg <;> try (simp [mS] at h; done)
    simp only [mS, Bool.and_eq_true, beq_iff_eq, decide_eq_true_eq] at h
    obtain ⟨⟨⟨⟨rfl, rfl⟩, h1⟩, h2⟩, h3⟩ := h
    exact s_augA G h1 h2 (sE x G.g h3).1
  | .sti xo xi x, st, _, h => by
    cases st <;> try (simp [mS] at h; done)
    rename_i tgs e pos
    cases tgs with
    | nil => simp [mS] at h
    | cons tg0 tgs =>
    cases tgs with
    | cons _ _ => cases tg0 <;> exact nomatch (show false = true from h)
    | nil =>
      cases tg0 <;> try (simp [mS] at h; done)
      simp only [mS, Bool.and_eq_true] at h
      obtain ⟨⟨⟨⟨h1, h2⟩, h3⟩, h4⟩, h5⟩ := h
      exact s_sti G h1 h2 (sE xo G.g h3).1 (sE xi G.g h4).1 (sE x G.g h5).1
  | .ex x, st, _, h => by
    cases st <;> try (simp [mS] at h; done)
    simp only [mS, Bool.and_eq_true] at h
    exact s_ex G h.1 (sE x G.g h.2).1
  | .ret x, st, _, h => by
    cases st <;> try (simp [mS] at h; done)
    rename_i v pos
    cases v <;> try (simp [mS] at h; done)
    exact s_ret G (sE x G.g (by simpa only [mS] using h)).1
  | .brk, st, _, h => by
    cases st <;> try (simp [mS] at h; done)
    exact s_brk
  | .cnt, st, _, h => by
    cases st <;> try (simp [mS] at h; done)
    exact s_cnt
  | .pass, st, _, h => by
    cases st <;> try (simp [mS] at h; done)
    exact s_pass
  | .rai k m, st, _, h => by
    replace h : mRai T k m sc st = true := by simpa only [mS] using h
    unfold mRai at h
    split at h
    · simp only [Bool.and_eq_true, beq_iff_eq, decide_eq_true_eq] at h
      obtain ⟨⟨⟨⟨⟨rfl, rfl⟩, h1⟩, h2⟩, h3⟩, h4⟩ := h
      exact s_rai G (hx k h3 h4) h1 h2
    · cases h
  | .ifs _ _ _, _, hf, _ => nomatch hf
  | .whil _ _, _, hf, _ => nomatch hf
  | .for_ _ _ _, _, hf, _ => nomatch hf
  | .forO _ _ _ _, _, hf, _ => nomatch hf
  | .fg _ _ _, _, hf, _ => nomatch hf
theorem o_of (G : Gd X F C T sc W E) {en : Bool} {i : Nat} {tg e : Expr} (h : mOw T en i tg sc e = true) : PI X tg e (oI F X.K i en) := by
  unfold mOw at h
  split at h
  · simp only [Bool.and_eq_true, beq_iff_eq] at h
    exact o_e G h.1.1 h.1.2 h.2
  · simp only [Bool.and_eq_true, beq_iff_eq] at h
    obtain ⟨⟨rfl, h1⟩, h2⟩ := h
    exact o_en G h1 h2.1.1 h2.1.2 h2.2
  · cases h
mutual
theorem sS {F : Fc} {E : Xn → En → Prop} (G : Gs X F C T sc W E) (hx : ∀ k, T.x0 ≤ k → k < T.nx → ExcE X.K X.mg F.fa T k) : ∀ (s : Sm) {st : Stmt}, mS T s sc st = true → PS X st (lS F (wS C E s))
  | .ifs c a b, st, h => by
    cases st <;> try (simp [mS] at h; done)
    simp only [mS, Bool.and_eq_true] at h
    exact s_if G (sE c G.g h.1.1).2.1 (sSs G hx a h.1.2) (sSs G hx b h.2)
  | .whil c a, st, h => by
    cases st <;> try (simp [mS] at h; done)
    rename_i ce ae el pos
    cases el <;> try (simp [mS] at h; done)
    simp only [mS, Bool.and_eq_true] at h
    exact s_while G (sE c G.g h.1).2.1 (sSs G hx a h.2)
  | .for_ t it a, st, h => by
    cases st <;> try (simp [mS] at h; done)
    rename_i te ie ae el pos
    cases el <;> try (simp [mS] at h; done)
    simp only [mS, Bool.and_eq_true] at h
    exact s_for G h.1.1.1 h.1.1.2 (sI it G.g h.1.2) (sSs G hx a h.2)
  | .forO t en i a, st, h => by
    cases st <;> try (simp [mS] at h; done)
    rename_i te ie ae el pos
    cases el <;> try (simp [mS] at h; done)
    simp only [mS, Bool.and_eq_true] at h
    exact s_forO G h.1.1.1 h.1.1.2 (o_of G.g h.1.2) fun p Hs P => sSs (G.pin P) hx a h.2
  | .fg pre post s, st, h => s_fg (sS G hx s (by cases st <;> simpa only [mS] using h))
  | .asg tg x, _, h => sFl G hx (.asg tg x) rfl h
  | .par is xs, _, h => sFl G hx (.par is xs) rfl h
  | .aug i op x, _, h => sFl G hx (.aug i op x) rfl h
  | .sti xo xi x, _, h => sFl G hx (.sti xo xi x) rfl h
  | .ex x, _, h => sFl G hx (.ex x) rfl h
  | .ret x, _, h => sFl G hx (.ret x) rfl h
  | .brk, _, h => sFl G hx (.brk) rfl h
  | .cnt, _, h => sFl G hx (.cnt) rfl h
  | .pass, _, h => sFl G hx (.pass) rfl h
  | .rai k m, _, h => sFl G hx (.rai k m) rfl h
theorem sSs {F : Fc} {E : Xn → En → Prop} (G : Gs X F C T sc W E) (hx : ∀ k, T.x0 ≤ k → k < T.nx → ExcE X.K X.mg F.fa T k) : ∀ (ss : List Sm) {sts : List Stmt}, mSs T ss sc sts = true → PSs X sts (lS F (wSs C E ss))
  | [], sts, h => by
    cases sts with
    | nil => exact s_nil
    | cons _ _ => simp [mSs] at h
  | s :: ss, sts, h => by
    cases sts with
    | nil => simp [mSs] at h
    | cons st sts =>
      simp only [mSs, Bool.and_eq_true] at h
      exact s_cons (sS G hx s h.1) (sSs G hx ss h.2)
end
end
end RK
namespace RK
open PySem L2
/-! ## a def keeps its promise -/
def argE (io : Bool) (ds : List D) : En := match io, ds with
  | true, .lst xs :: r => .io xs :: r.map .v
  | _, ds => ds.map .v
def startE (n : Nat) (io : Bool) (ds : List D) : En := argE io ds ++ List.replicate (n - ds.length) .no
def finE (io : Bool) (ρ : List Sl) (Q : List D → Prop) : Prop := match io with
  | true => (match ρ[0]? with
    | some (Sl.io os) => Q os
    | _ => False)
  | false => Q []
def deOf (io fr : Bool) (Qd : D → List D → Prop) : DE where
  nx := fun ρ => finE io ρ fun os => fr = false ∧ Qd .non os
  rt := fun r ρ => match fr with
    | true => (match r with
      | .f ds => finE io ρ fun os => Qd (.lst ds) os
      | .b i => (match ρ[i]? with
        | some (.ow ds) => finE io ρ fun os => Qd (.lst ds) os
        | _ => False)
      | _ => False)
    | false => keepR ρ r fun d ρ1 => finE io ρ1 fun os => Qd d os
  bk := fun _ => False
  ct := fun _ => False
structure Md (K : PySem.W.Frag) (mg : Str → Option Value) (fa : Nat → Addr) (gl : Str → Option D) (fn : Nat → Str) (nf x0 nx : Nat) : Prop where
  exs : ∀ k, x0 ≤ k → k < nx → ExcE K mg fa ⟨[], fn, nf, x0, nx⟩ k
  glb : ∀ x d, gl x = some d → ∃ v u, mg x = some u ∧ RelV v u ∧ ∀ H, Rep K fa H v d
  blt : ∀ x, x ∈ bltNames → mg x = none
  at_ : ∀ f, f < nf → mg (fn f) = some (.ref (fa f)) ∧ PySem.W.keepIn K (.ref (fa f)) = true
structure FnK (P : Program) (w : World) (K : PySem.W.Frag) (mg : Str → Option Value) (base : Heap) (fa : Nat → Addr) (k f : Nat) (io fr : Bool) (sp : List D → (D → List D → Prop) → (Xn → Prop) → Prop) : Prop where
  ex : ∃ k' fd ps, FnOk P w K mg base (L2.CX P w) k' (fa f) fd ps (lSp K fa io fr sp) ∧ k' ≤ k ∧ L2.Binds K fd ps []
def iosOf : Option Addr → List (Nat × Addr)
  | some a => [(0, a)]
  | none => []
theorem iosOf_mem {ioa : Option Addr} {i : Nat} {a : Addr} (h : (i, a) ∈ iosOf ioa) : i = 0 ∧ ioa = some a := by
  cases ioa with
  | none => cases h
  | some b =>
    have h := List.mem_singleton.mp h
    injection h with h1 h2
    exact ⟨h1, by rw [h2]⟩
theorem argsd_len {K : PySem.W.Frag} {fa : Nat → Addr} {Hf H : Hp} {vs : List V} {ds : List D} {io : Bool} {ioa : Option Addr} (h : Argsd K fa Hf H vs ds io ioa) : vs.length = ds.length := by
  cases io <;> cases ioa <;> simp only [Argsd] at h
  · exact h.length
  · obtain ⟨ws, vs', xs, ds', rfl, rfl, _, _, _, r⟩ := h
    simp only [List.length_cons, r.length]
theorem argE_len {io : Bool} {ds : List D} : (argE io ds).length = ds.length := by
  unfold argE
  split <;> simp
section
variable {K : PySem.W.Frag} {fa : Nat → Addr} {Hf H : Hp} {vs : List V} {ds : List D} {io : Bool} {ioa : Option Addr} {N : List Str}
theorem start_get {i : Nat} : (L2.start N vs)[i]? = if i < vs.length then (vs[i]?).map some else if i < vs.length + (N.length - vs.length) then some none else none := by
  unfold L2.start
  by_cases h : i < vs.length
  · rw [if_pos h, List.getElem?_append_left (by simpa using h), List.getElem?_map]
  · rw [if_neg h, List.getElem?_append_right (by simpa using h)]
    by_cases h2 : i < vs.length + (N.length - vs.length)
    · rw [if_pos h2, List.getElem?_replicate, if_pos (by simp; omega)]
    · rw [if_neg h2, List.getElem?_replicate, if_neg (by simp; omega)]
theorem slots_v {F : Fc} {vs : List V} {ds : List D} (r : Reps F.K F.fa Hf vs ds) {n : Nat} {i : Nat} {s : Sl} (h : (ds.map Sl.v ++ List.replicate n .no)[i]? = some s) (e : ∀ v, vs[i]? = some v → X = some (some v)) (i0 : Nat) : SlOk F Hf H i0 s X := by
  by_cases hi : i < ds.length
  · rw [List.getElem?_append_left (by simpa using hi), List.getElem?_map] at h
    obtain ⟨d, hd⟩ : ∃ d, ds[i]? = some d := ⟨_, List.getElem?_eq_getElem hi⟩
    rw [hd] at h; cases h
    obtain ⟨v, h1, h2⟩ := r.get hd
    exact ⟨v, e v h1, h2⟩
  · rw [List.getElem?_append_right (by simpa using hi), List.getElem?_replicate] at h
    split at h
    · cases h; trivial
    · cases h
theorem rel_start (l : Le Hf H) (a : Argsd K fa Hf H vs ds io ioa) (hn : vs.length ≤ N.length) : Rel ⟨K, fa, Hf, H, iosOf ioa⟩ Hf H (L2.start N vs) (startE N.length io ds) where
  len := by
    have := argsd_len a
    unfold L2.start startE
    simp only [List.length_append, List.length_map, List.length_replicate, argE_len]
    omega
  sub := l
  base := Le.refl _
  keep := fun a o h1 h2 _ => ⟨h1, h2⟩
  iok := fun i b hm => by
    obtain ⟨_, rfl⟩ := iosOf_mem hm
    cases io <;> simp only [Argsd] at a
    obtain ⟨ws, vs', xs, ds', rfl, rfl, h1, h2, _, r⟩ := a
    refine ⟨h2, ?_, ?_⟩
    · rw [h1]; exact fun z => nomatch z
    · show H b ≠ none
      rw [h1]; exact fun z => nomatch z
  slot := fun i s hs => by
    have el := argsd_len a
    cases io <;> cases ioa <;> simp only [Argsd] at a
    · have hs' : (ds.map Sl.v ++ List.replicate (N.length - ds.length) .no)[i]? = some s := by
        rw [← hs]; unfold startE argE; rfl
      refine slots_v (F := ⟨K, fa, Hf, H, iosOf none⟩) a hs' (fun v hv => ?_) i
      rw [start_get, if_pos (List.getElem?_eq_some_iff.mp hv).1, hv]; rfl
    · obtain ⟨ws, vs', xs, ds', rfl, rfl, h1, h2, rx, r⟩ := a
      cases i with
      | zero =>
        have : s = .io xs := by
          have h := hs
          simp [startE, argE] at h
          exact h.symm
        subst this
        exact ⟨_, ws, by rw [start_get]; rfl, h1, h2, rx, List.mem_singleton.mpr rfl⟩
      | succ i =>
        have hs' : (ds'.map Sl.v ++ List.replicate (N.length - (ds'.length + 1)) .no)[i]? = some s := by
          rw [← hs]; simp [startE, argE]
        refine slots_v (F := ⟨K, fa, Hf, H, iosOf _⟩) r hs' (fun v hv => ?_) (i + 1)
        have := (List.getElem?_eq_some_iff.mp hv).1
        rw [start_get, if_pos (by simp; omega)]
        simp only [List.getElem?_cons_succ, hv]; rfl
  dist := fun i j b hij hi hj _ _ => by
    have own0 : ∀ i : Nat, isOwn (startE N.length io ds)[i]? = true → i = 0 := by
      intro i hi
      cases i with
      | zero => rfl
      | succ i =>
        exfalso
        revert hi
        have vv : ∀ (l : List D) (n m : Nat), isOwn (l.map Sl.v ++ List.replicate n .no)[m]? = false := by
          intro l n m
          by_cases hm : m < l.length
          · rw [List.getElem?_append_left (by simpa using hm), List.getElem?_map, List.getElem?_eq_getElem hm]; rfl
          · rw [List.getElem?_append_right (by simpa using hm), List.getElem?_replicate]
            split <;> rfl
        unfold startE argE
        split
        · simp only [List.cons_append, List.getElem?_cons_succ, vv, Bool.false_eq_true]
          exact id
        · simp only [vv, Bool.false_eq_true]
          exact id
    exact hij ((own0 i hi).trans (own0 j hj).symm)
theorem fr_of {ρ : En} {σ : St} {Hf' H' : Hp} (q : Rel ⟨K, fa, Hf, H, iosOf ioa⟩ Hf' H' σ ρ) : Fr ioa Hf H Hf' H' where
  le := q.base
  sub := q.sub
  keep := fun a o h1 h2 h3 => q.keep a o h1 h2 fun i hm => h3 (iosOf_mem hm).2
  dom := fun a h => q.dom0 h
theorem fin_of {ρ : En} {σ : St} {Hf' H' : Hp} (q : Rel ⟨K, fa, Hf, H, iosOf ioa⟩ Hf' H' σ ρ) (hio : io = ioa.isSome) {Q : List D → Prop} (h : finE io ρ Q) : ∃ os, Q os ∧ IoOut K fa Hf' H' os ioa := by
  cases ioa with
  | none => subst hio; exact ⟨[], h, trivial⟩
  | some a =>
    subst hio
    unfold finE at h
    dsimp only [Option.isSome] at h
    cases e : ρ[0]? with
    | none => rw [e] at h; exact h.elim
    | some s =>
      rw [e] at h
      cases s with
      | io os =>
        obtain ⟨b, ws, _, e1, e2, r, hm⟩ := q.slot 0 _ e
        obtain ⟨_, hb⟩ := iosOf_mem (ioa := some a) hm
        cases hb
        exact ⟨os, h, ws, e1, e2, r⟩
      | _ => exact h.elim
end
theorem argsd_io {K : PySem.W.Frag} {fa : Nat → Addr} {Hf H : Hp} {vs : List V} {ds : List D} {io : Bool} {ioa : Option Addr} (h : Argsd K fa Hf H vs ds io ioa) : io = ioa.isSome := by
  cases io <;> cases ioa <;> simp only [Argsd] at h <;> rfl
theorem SpMono.refl_ok : True := trivial
section
variable {P : Program} {w : World} {K : PySem.W.Frag} {mg : Str → Option Value} {base : Heap} {x qual : Str} {params : Arguments} {body : List Stmt} {scope : Scope} {f : Addr} {fd : FuncData}
theorem fn_ok {N ps : List Str} {k : Nat} {fa : Nat → Addr} {io fr : Bool} {sp : List D → (D → List D → Prop) → (Xn → Prop) → Prop} {C : Ct} {fn : Nat → Str} {nf x0 nx : Nat} {ss : List Sm}
    (F : FunD K x qual params body scope [] [] f fd) (S : FnScope N ps scope) (hN : ps.length ≤ N.length) (hm : mSs ⟨N, fn, nf, x0, nx⟩ ss scope body = true) (mono : SpMono C) (M : Md K mg fa C.gl fn nf x0 nx)
    (fns : ∀ g, g < nf → FnK P w K mg base fa k g (C.io g).isSome (C.fr g) (C.sp g))
    (hp : ∀ ds Qd Ed, sp ds Qd Ed → ds.length = ps.length ∧ wSs C (fun x _ => Ed x) ss (deOf io fr Qd) (startE N.length io ds)) : FnOk P w K mg base (L2.CX P w) (k + 1) f fd ps (lSp K fa io fr sp) := by
  refine F.ok S (fun vs H Q E h => ?_) fun cdv A outer s H vs Q E hr h => ?_
  · obtain ⟨Hf, ds, Qd, Ed, ioa, _, h1, h2, _⟩ := h
    rw [argsd_len h2]; exact (hp _ _ _ h1).1
  · obtain ⟨Hf, ds, Qd, Ed, ioa, l, h1, h2, hQ, hE⟩ := h
    obtain ⟨el, hw⟩ := hp _ _ _ h1
    have hio := argsd_io h2
    refine ⟨lS ⟨K, fa, Hf, H, iosOf ioa⟩ (wSs C (fun x _ => Ed x) ss), ?_, ?_⟩
    · refine sSs (T := ⟨N, fn, nf, x0, nx⟩) (sc := scope) (W := fun cls d _ H => E cls d H) ⟨⟨rfl, rfl, rfl, S.nd, rfl, ?_, mono, fun g hg => ?_, M.glb, M.blt, takes_of rfl rfl rfl rfl, fun x ρ Hf' H' σ cls dd q hx xr => ?_⟩, passes_of rfl, fun _ => rfl, S.kind⟩ ?_ ss hm
      · have := hr.un
        show (A.deeper _).units + 65 < cLine
        omega
      · obtain ⟨k', fd', ps', h, hk, hb⟩ := (fns g hg).ex
        exact ⟨k', fd', ps', h, hr.mono hk, (M.at_ g hg).1, (M.at_ g hg).2, hb⟩
      · exact hE x cls dd Hf' H' hx (fr_of q) xr
      · intro j h1 h2
        obtain ⟨a, b, c, d, e⟩ := M.exs j h1 h2
        exact ⟨a, b, c, d, e⟩
    · refine ⟨Hf, startE N.length io ds, deOf io fr Qd, rel_start l h2 (by rw [argsd_len h2, el]; exact hN), hw, ?_⟩
      refine ⟨fun ρ σ Hf' H' q l' h => ?_, fun r ρ σ v Hf' H' q l' rr h => ?_, fun ρ σ Hf' H' q l' h => h.elim, fun ρ σ Hf' H' q l' h => h.elim⟩
      · have h : finE io ρ fun os => fr = false ∧ Qd .non os := h
        obtain ⟨os, ⟨hf, h3⟩, ho⟩ := fin_of q hio h
        subst hf
        exact hQ _ _ _ _ _ h3 (fr_of q) .non ho
      · cases fr with
        | false =>
          replace h : keepR ρ r fun d ρ1 => finE io ρ1 fun os => Qd d os := h
          cases r with
          | v d =>
            obtain ⟨os, h, ho⟩ := fin_of q hio h
            exact hQ _ _ _ _ _ h (fr_of q) rr ho
          | b i =>
            obtain ⟨d, ρ2, Hf2, k2, q2, r2, _⟩ := keepR_ok (r := .b i) q Step.refl q rr h
            obtain ⟨os, h, ho⟩ := fin_of q2 hio k2
            exact hQ _ _ _ _ _ h (fr_of q2) r2 ho
          | f ds =>
            obtain ⟨os, h, ho⟩ := fin_of q hio h
            obtain ⟨a, ws, rfl, e1, e2, r, e3⟩ := rr
            have fr := fr_of q
            refine hQ _ _ _ (upd Hf' a (.lst ws)) _ h ⟨fr.le.trans (le_upd e2), upd_le fr.sub e1, fun b o k1 k2 k3 => ?_, fr.dom⟩ (Rep.lst (upd_same ..) (Reps.le (le_upd e2) r)) ?_
            · have := fr.keep b o k1 k2 k3
              refine ⟨this.1, ?_⟩
              rw [upd_ne (fun z => ?_)]
              · exact this.2
              · rw [z] at k1
                have : H a = none := e3
                rw [this] at k1; cases k1
            · cases ioa with
              | none => trivial
              | some b =>
                obtain ⟨ws', i1, i2, i3⟩ := ho
                refine ⟨ws', i1, ?_, Reps.le (le_upd e2) i3⟩
                rw [upd_ne (fun z => ?_)]
                · exact i2
                · have := (q.iok 0 b (List.mem_singleton.mpr rfl)).2.2
                  rw [z] at this
                  exact this e3
        | true =>
          cases r with
          | v d => exact h.elim
          | f ds =>
            obtain ⟨os, h, ho⟩ := fin_of q hio h
            obtain ⟨a, ws, rfl, e1, e2, r, e3⟩ := rr
            exact hQ _ _ _ _ _ h (fr_of q) ⟨a, ws, rfl, e1, e2, r, e3⟩ ho
          | b i =>
            have h : (match ρ[i]? with
              | some (Sl.ow ds) => finE io ρ fun os => Qd (.lst ds) os
              | _ => False) := h
            obtain ⟨e, s, es, _⟩ := rr
            rw [es] at h
            cases s with
            | ow ds =>
              obtain ⟨os, h, ho⟩ := fin_of q hio h
              obtain ⟨a, ws, e', e1, e2, r, e3⟩ := q.slot i _ es
              rw [e] at e'; cases e'
              exact hQ _ _ _ _ _ h (fr_of q) ⟨a, ws, rfl, e1, e2, r, e3⟩ ho
            | _ => exact h.elim
end
end RK
namespace RK
open PySem L2
/-! ## promises in one form -/
inductive Out where
  | ret (d : D) (os : List D) | exc (x : Xn)
def Out.k (o : Out) (Q : D → List D → Prop) (E : Xn → Prop) : Prop := match o with
  | .ret d os => Q d os
  | .exc x => E x
abbrev SpT : Type := List D → (D → List D → Prop) → (Xn → Prop) → Prop
/-- α: what the arguments are; β: what it may draw -/
def spP {α β : Type} (f : α → List D) (P : α → Prop) (G : α → β → Prop) (out : α → β → Out) : SpT := fun ds Q E => ∃ x, ds = f x ∧ P x ∧ ∀ r, G x r → (out x r).k Q E
def Mono (s : SpT) : Prop := ∀ ds Q Q' E E', (∀ d o, Q d o → Q' d o) → (∀ x, E x → E' x) → s ds Q E → s ds Q' E'
theorem spP_mono {α β : Type} {f : α → List D} {P : α → Prop} {G : α → β → Prop} {out : α → β → Out} : Mono (spP f P G out) := by
  rintro ds Q Q' E E' hQ hE ⟨x, h1, h2, h3⟩
  refine ⟨x, h1, h2, fun r hr => ?_⟩
  have := h3 r hr
  cases h : out x r with
  | ret d os => rw [h] at this; exact hQ _ _ this
  | exc y => rw [h] at this; exact hE _ this
/-- a function of its arguments -/
def spF {α : Type} (f : α → List D) (P : α → Prop) (g : α → D) : SpT := fun ds Q _ => ∃ x, ds = f x ∧ P x ∧ Q (g x) []
theorem spF_mono {α : Type} {f : α → List D} {P : α → Prop} {g : α → D} : Mono (spF f P g) := by
  rintro ds Q Q' E E' hQ hE ⟨x, h1, h2, h3⟩
  exact ⟨x, h1, h2, hQ _ _ h3⟩
/-! ## loops -/
theorem forL_inv {step : D → En → (En → Prop) → Prop} {items : List D} {ρ : En} {nx : En → Prop} (I : Nat → En → Prop) (h0 : I 0 ρ) (hs : ∀ i d ρ k, items[i]? = some d → I i ρ → (∀ ρ', I (i + 1) ρ' → k ρ') → step d ρ k) (hn : ∀ ρ, I items.length ρ → nx ρ) : forL step items ρ nx := by
  induction items generalizing ρ I with
  | nil => exact hn ρ h0
  | cons d r ih =>
    refine hs 0 d ρ _ rfl h0 fun ρ' h' => ?_
    exact ih (fun i => I (i + 1)) h' (fun i d ρ k e => hs (i + 1) d ρ k (by simpa using e)) hn
theorem lcL_pure {step : D → En → (Option D → En → Prop) → Prop} {Q : List D → En → Prop} {ρ : En} (f : D → Option D) : ∀ {items acc : List D}, (∀ d ∈ items, ∀ k : Option D → En → Prop, k (f d) ρ → step d ρ k) → acc.length + items.length ≤ sizeLine → Q (acc ++ items.filterMap f) ρ → lcL step items acc ρ Q
  | [], acc, _, _, q => by simpa [lcL] using q
  | d :: r, acc, h, l, q => by
    refine h d List.mem_cons_self _ ?_
    have h' : ∀ d ∈ r, ∀ k : Option D → En → Prop, k (f d) ρ → step d ρ k := fun e he => h e (List.mem_cons_of_mem _ he)
    simp only [List.length_cons] at l
    cases e : f d with
    | none =>
      refine lcL_pure f h' (by omega) ?_
      rw [List.filterMap_cons, e] at q; exact q
    | some x =>
      refine ⟨by omega, lcL_pure f h' (by simp only [List.length_append, List.length_cons, List.length_nil]; omega) ?_⟩
      rw [List.filterMap_cons, e] at q
      simpa using q
theorem lcL_inv {step : D → En → (Option D → En → Prop) → Prop} {items : List D} {ρ : En} {Q : List D → En → Prop} (I : Nat → List D → En → Prop) (len : items.length ≤ sizeLine) (h0 : I 0 [] ρ) (hs : ∀ i d acc ρ k, items[i]? = some d → acc.length ≤ i → I i acc ρ → (∀ x ρ', I (i + 1) (acc ++ [x]) ρ' → k (some x) ρ') → (∀ ρ', I (i + 1) acc ρ' → k none ρ') → step d ρ k) (hn : ∀ acc ρ, I items.length acc ρ → Q acc ρ) : lcL step items [] ρ Q := by
  have key : ∀ (items : List D) (j : Nat) (acc : List D) (ρ : En) (I : Nat → List D → En → Prop), j + items.length ≤ sizeLine → acc.length ≤ j → I 0 acc ρ → (∀ i d acc ρ k, items[i]? = some d → acc.length ≤ j + i → I i acc ρ → (∀ x ρ', I (i + 1) (acc ++ [x]) ρ' → k (some x) ρ') → (∀ ρ', I (i + 1) acc ρ' → k none ρ') → step d ρ k) → (∀ acc ρ, I items.length acc ρ → Q acc ρ) → lcL step items acc ρ Q := by
    intro items
    induction items with
    | nil => intro j acc ρ I _ _ h0 _ hn; exact hn _ _ h0
    | cons d r ih =>
      intro j acc ρ I l la h0 hs hn
      simp only [List.length_cons] at l
      refine hs 0 d acc ρ _ rfl la h0 (fun x ρ' h' => ?_) (fun ρ' h' => ?_)
      · refine ⟨by omega, ih (j + 1) _ ρ' (fun i => I (i + 1)) (by omega) (by simp; omega) h' (fun i d acc ρ k e la => hs (i + 1) d acc ρ k (by simpa using e) (by omega)) hn⟩
      · exact ih (j + 1) _ ρ' (fun i => I (i + 1)) (by omega) (by omega) h' (fun i d acc ρ k e la => hs (i + 1) d acc ρ k (by simpa using e) (by omega)) hn
  exact key items 0 [] ρ I (by omega) (Nat.le_refl _) h0 (fun i d acc ρ k e la => hs i d acc ρ k e (by omega)) hn
/-! ## the law's end -/
section
variable {P : Program} {w : World} {K : PySem.W.Frag} {mg : Str → Option Value} {base : Heap}
theorem law_sp {fa : Nat → Addr} {sp : SpT} {H : Hp} {a : Addr} {ns : List Int} (hS : SqL K H a (ns.map V.int)) (h : sp [.sc ns] (fun d _ => d = .bl true) fun _ => False) : lSp K fa false false sp [.ref a] H (fun v _ => v = .bl true) fun _ _ _ => False := by
  refine ⟨H, [.sc ns], fun d _ => d = .bl true, fun _ => False, none, Le.refl _, h, .cons (.sc hS) .nil, fun d o v Hf' H' e _ r _ => ?_, fun x cls dd Hf' H' e => e.elim⟩
  subst e
  cases r with
  | bl => rfl
theorem noX {k : Nat} {f : Addr} {fd : FuncData} {ps : List Str} {sp : Sp} (F : FnOk P w K mg base (L2.CX P w) k f fd ps sp) : FnOk P w K mg base CX0 k f fd ps (fun vs H Q E => sp vs H Q fun _ _ _ => False) :=
  ⟨fun vs H Q E h => F.len _ _ _ _ h, fun A outer s H args us vs Q E hr he hb hv hs => PySem.codeAny_mono (F.run A outer s H args us vs Q _ hr he hb hv hs) fun r s' h => by
    cases r with
    | ok f => cases f <;> exact h
    | error e =>
      obtain ⟨_, _, _, _, _, _, _, _, _, _, _, _, h⟩ := h
      exact h.elim⟩
end
end RK
namespace RK
open PySem L2 RK
def Sl.free : Sl → Bool
  | .io _ => false
  | _ => true
/-! ## reckoning from the left, no further than the first open question -/
def brK (k : Bool) (a b : En → Prop) (ρ : En) : Pr (a, b) := if k = true then a ρ else b ρ
def brE (C : Ct) (E : Xn → En → Prop) (k : Bool) (a b : Ex) (ρ : En) (Q : R → En → Prop) : Pr (E, Q) := if k = true then RK.wE C a E ρ Q else RK.wE C b E ρ Q
def brT (C : Ct) (E : Xn → En → Prop) (k : Bool) (a : Ex) (ρ : En) (Q : Bool → En → Prop) : Pr (E, Q) := if k = true then RK.wT C a E ρ Q else Q false ρ
def brF (C : Ct) (E : Xn → En → Prop) (k : Bool) (a : Ex) (ρ : En) (Q : Bool → En → Prop) : Pr (E, Q) := if k = true then Q true ρ else RK.wT C a E ρ Q
/-- of `and`: the value r where it is false -/
def anE (C : Ct) (E : Xn → En → Prop) (k : Option Bool) (r : R) (a : Ex) (ρ : En) (Q : R → En → Prop) : Pr (E, Q) := match k with
  | some true => RK.wE C a E ρ Q
  | some false => Q r ρ
  | none => False
def orE (C : Ct) (E : Xn → En → Prop) (k : Option Bool) (r : R) (a : Ex) (ρ : En) (Q : R → En → Prop) : Pr (E, Q) := match k with
  | some true => Q r ρ
  | some false => RK.wE C a E ρ Q
  | none => False
def c2E (C : Ct) (E : Xn → En → Prop) (k : Bool) (op : COp) (r : R) (c : Ex) (ρ : En) (Q : R → En → Prop) : Pr (E, Q) :=
  if k = true then RK.wE C c E ρ fun r3 ρ3 => cmpD op (RK.get ρ3 r) (RK.get ρ3 r3) fun k' => Q (.v (.bl k')) ρ3 else Q (.v (.bl false)) ρ
def tsK (C : Ct) (E : Xn → En → Prop) (k : Bool) (cs : List Ex) (ρ : En) (Q : Bool → En → Prop) : Pr (E, Q) := if k = true then RK.wTs C cs E ρ Q else Q false ρ
def whlK (C : Ct) (E : Xn → En → Prop) (c : Ex) (a : List Sm) (D : DE) (ρ : En) : Pr (E, D) := RK.wS C E (.whil c a) D ρ
def forK (C : Ct) (E : Xn → En → Prop) (t : Tg) (a : List Sm) (D : DE) (items : List RK.D) (ρ : En) : Pr (E, D) :=
  forL (fun d ρ2 k => asgT t (.v d) ρ2 fun ρ3 => RK.wSs C E a ⟨k, D.rt, D.nx, k⟩ ρ3) items ρ D.nx
def rtO (D : DE) (i : Nat) : R → En → Prop := fun r ρ' => match r with
  | .v d => D.rt (.v d) (ρ'.set i .no)
  | _ => False
def forOK (C : Ct) (E : Xn → En → Prop) (t : Tg) (a : List Sm) (i : Nat) (ds : List RK.D) (D : DE) (items : List RK.D) (ρ : En) : Pr (E, D) :=
  forL (fun d ρ2 k => ρ2[i]? = some (.io ds) ∧ asgT t (.v d) ρ2 fun ρ3 => RK.wSs C (fun x ρ' => E x (ρ'.set i .no)) a ⟨k, rtO D i, fun ρ' => ρ'[i]? = some (.io ds) ∧ D.nx (ρ'.set i (.ow ds)), k⟩ ρ3) items ρ fun ρ' => ρ'[i]? = some (.io ds) ∧ D.nx (ρ'.set i (.ow ds))
def foK (C : Ct) (E : Xn → En → Prop) (t : Tg) (en : Bool) (i : Nat) (a : List Sm) (s : Option Sl) (D : DE) (ρ : En) : Pr (E, D) := match s with
  | some (.ow ds) => forOK C E t a i ds D (itemsO en ds) (ρ.set i (.io ds))
  | _ => False
def bodyK (C : Ct) (tg : Tg) (ifs : List Ex) (elt : Ex) (d : RK.D) (ρ : En) (k : Option RK.D → En → Prop) : Pr k :=
  asgT tg (.v d) ρ fun ρ3 => RK.wTs C ifs (fun _ _ => False) ρ3 fun c ρ4 => if c = true then RK.wE C elt (fun _ _ => False) ρ4 fun r ρ5 => keepR ρ5 r fun x ρ6 => k (some x) ρ6 else k none ρ4
def compK (C : Ct) (elt : Ex) (tg : Tg) (ifs : List Ex) (own : List Nat) (ρ1 : En) (items : List RK.D) (Q : R → En → Prop) : Pr Q :=
  lcL (fun d ρ2 k => bodyK C tg ifs elt d (wipeE ρ2 own) fun o ρ => k o (backE ρ1 ρ own)) items [] ρ1 fun ds ρ7 => Q (.f ds) ρ7
def elK (C : Ct) (c : Bool) (elt : Ex) (ρ : En) (k : Option RK.D → En → Prop) : Pr k := if c = true then RK.wE C elt (fun _ _ => False) ρ fun r ρ5 => keepR ρ5 r fun x ρ6 => k (some x) ρ6 else k none ρ
/-! ### what a slot holds is asked by itself -/
def vK (s : Option Sl) (i : Nat) (ρ : En) (Q : R → En → Prop) : Pr Q := match s with
  | some (.v d) => Q (.v d) ρ
  | some (.ow _) => Q (.b i) ρ
  | some (.io _) => Q (.b i) ρ
  | _ => False
def gK (s : Option RK.D) (ρ : En) (Q : R → En → Prop) : Pr Q := match s with
  | some d => Q (.v d) ρ
  | none => False
def ngK (s : RK.D) (ρ : En) (Q : R → En → Prop) : Pr Q := match s with
  | .int i => Q (.v (.int (-i))) ρ
  | _ => False
def ntK (s : Option Bool) (ρ : En) (Q : R → En → Prop) : Pr Q := match s with
  | some k => Q (.v (.bl (!k))) ρ
  | none => False
def isK (s : Option Bool) (ρ : En) (Q : R → En → Prop) : Pr Q := match s with
  | some k => Q (.v (.bl k)) ρ
  | none => False
def kbK (s : Option Sl) (i : Nat) (ρ : En) (Q : RK.D → En → Prop) : Pr Q := match s with
  | some (.v d) => Q d ρ
  | some (.ow ds) => Q (.lst ds) (ρ.set i (.v (.lst ds)))
  | _ => False
def ioK (C : Ct) (f : Nat) (E : Xn → En → Prop) (i : Nat) (s : Option Sl) (ρ' : En) (Q : R → En → Prop) (ds : List RK.D) : Pr (E, Q) := match s with
  | some (.ow xs) => finD C f E (fun o => ρ'.set i (.ow o)) ρ' Q (.lst xs :: ds)
  | some (.io xs) => finD C f E (fun o => ρ'.set i (.io o)) ρ' Q (.lst xs :: ds)
  | _ => False
def apK (s : Option Sl) (d : RK.D) (i : Nat) (ρ : En) (Q : R → En → Prop) : Pr Q := match s with
  | some (.ow xs) => xs.length < sizeLine ∧ Q (.v .non) (ρ.set i (.ow (xs ++ [d])))
  | _ => False
def poK (s : Option Sl) (i : Nat) (ρ : En) (Q : R → En → Prop) : Pr Q := match s with
  | some (.ow xs) => ∃ d, xs[xs.length - 1]? = some d ∧ Q (.v d) (ρ.set i (.ow xs.dropLast))
  | _ => False
def stK (s : Option Sl) (d : RK.D) (j : Nat) (k : Int) (ρ : En) (Q : En → Prop) : Pr Q := match s with
  | some (.ow xs) => ∃ m, ixN xs.length k = some m ∧ Q (ρ.set j (.ow (xs.set m d)))
  | some (.io xs) => ∃ m, ixN xs.length k = some m ∧ Q (ρ.set j (.io (xs.set m d)))
  | _ => False
def agI (op : BOp) (a : Int) (y : RK.D) (i : Nat) (ρ1 : En) (Q : En → Prop) : Pr Q := match op, y with
  | .add, .int b => Q (ρ1.set i (.v (.int (a + b))))
  | .sub, .int b => Q (ρ1.set i (.v (.int (a - b))))
  | _, _ => False
def agL (op : BOp) (y : RK.D) (s : Option Sl) (i : Nat) (ρ1 : En) (Q : En → Prop) : Pr Q := match op, y, s with
  | .add, .lst ys, some (.ow xs) => xs.length + ys.length ≤ sizeLine ∧ Q (ρ1.set i (.ow (xs ++ ys)))
  | _, _, _ => False
def agK (C : Ct) (E : Xn → En → Prop) (i : Nat) (op : BOp) (x : Ex) (s : Option Sl) (ρ : En) (Q : En → Prop) : Pr (E, Q) := match s with
  | some (.v (.int a)) => RK.wE C x E ρ fun r ρ1 => agI op a (RK.get ρ1 r) i ρ1 Q
  | some (.ow _) => RK.wE C x E ρ fun r ρ1 => agL op (RK.get ρ1 r) ρ1[i]? i ρ1 Q
  | _ => False
section
variable {C : Ct} {E : Xn → En → Prop} {ρ : En} {D : DE} {Q : R → En → Prop} {QB : Bool → En → Prop}
def tK (k : Option Bool) (ρ : En) (QB : Bool → En → Prop) : Pr QB := match k with
  | some b => QB b ρ
  | none => False
theorem u_nil : RK.wSs C E [] D ρ = D.nx ρ := by first | rfl | (rw [RK.wE]; done) | (rw [RK.wS]; done) | (rw [RK.wSs]; done) | (rw [RK.wT]; done) | (rw [wRs]; done) | (rw [RK.wTs]; done) | (rw [RK.wI]; done) | (rw [RK.wE]; rfl) | (rw [RK.wS]; rfl) | (rw [RK.wTs]; rfl) | (simp only [RK.wT]; rfl)
theorem u_cons {s : Sm} {r : List Sm} : RK.wSs C E (s :: r) D ρ = RK.wS C E s ⟨RK.wSs C E r D, D.rt, D.bk, D.ct⟩ ρ := by first | rfl | (rw [RK.wE]; done) | (rw [RK.wS]; done) | (rw [RK.wSs]; done) | (rw [RK.wT]; done) | (rw [wRs]; done) | (rw [RK.wTs]; done) | (rw [RK.wI]; done) | (rw [RK.wE]; rfl) | (rw [RK.wS]; rfl) | (rw [RK.wTs]; rfl) | (simp only [RK.wT]; rfl)
theorem u_asg {t : Tg} {x : Ex} : RK.wS C E (.asg t x) D ρ = RK.wE C x E ρ fun r ρ1 => asgT t r ρ1 D.nx := by first | rfl | (rw [RK.wE]; done) | (rw [RK.wS]; done) | (rw [RK.wSs]; done) | (rw [RK.wT]; done) | (rw [wRs]; done) | (rw [RK.wTs]; done) | (rw [RK.wI]; done) | (rw [RK.wE]; rfl) | (rw [RK.wS]; rfl) | (rw [RK.wTs]; rfl) | (simp only [RK.wT]; rfl)
theorem u_par {is : List Nat} {es : List Ex} : RK.wS C E (.par is es) D ρ = wRs C es E ρ fun rs ρ1 => keepBs ρ1 rs fun rs' ρ2 => setRs ρ2 is rs' D.nx := by first | rfl | (rw [RK.wE]; done) | (rw [RK.wS]; done) | (rw [RK.wSs]; done) | (rw [RK.wT]; done) | (rw [wRs]; done) | (rw [RK.wTs]; done) | (rw [RK.wI]; done) | (rw [RK.wE]; rfl) | (rw [RK.wS]; rfl) | (rw [RK.wTs]; rfl) | (simp only [RK.wT]; rfl)
theorem u_aug {i : Nat} {op : BOp} {x : Ex} : RK.wS C E (.aug i op x) D ρ = agK C E i op x ρ[i]? ρ D.nx := by
  first
    | (rw [RK.wS]; done)
    | (rw [RK.wS]
       unfold agK
       try dsimp only
       generalize ρ[i]? = s
       rcases s with _ | s
       · first | done | rfl
       · cases s <;> first | done | rfl | (rename_i d; cases d <;> rfl))
theorem u_agK_i {i : Nat} {op : BOp} {x : Ex} {a : Int} {Q : En → Prop} : agK C E i op x (some (.v (.int a))) ρ Q = RK.wE C x E ρ fun r ρ1 => agI op a (RK.get ρ1 r) i ρ1 Q := rfl
theorem u_agK_o {i : Nat} {op : BOp} {x : Ex} {xs : List RK.D} {Q : En → Prop} : agK C E i op x (some (.ow xs)) ρ Q = RK.wE C x E ρ fun r ρ1 => agL op (RK.get ρ1 r) ρ1[i]? i ρ1 Q := rfl
theorem u_agI_a {a b : Int} {i : Nat} {Q : En → Prop} : agI .add a (.int b) i ρ Q = Q (ρ.set i (.v (.int (a + b)))) := rfl
theorem u_agI_s {a b : Int} {i : Nat} {Q : En → Prop} : agI .sub a (.int b) i ρ Q = Q (ρ.set i (.v (.int (a - b)))) := rfl
theorem u_agL {xs ys : List RK.D} {i : Nat} {Q : En → Prop} : agL .add (.lst ys) (some (.ow xs)) i ρ Q = (xs.length + ys.length ≤ sizeLine ∧ Q (ρ.set i (.ow (xs ++ ys)))) := rfl
def stiK (d : RK.D) (ro : R) (ri : RK.D) (ρ4 : En) (Q : En → Prop) : Pr Q := match ro, ri with
      | .b j, .int k => (match ρ4[j]? with
        | some (.ow xs) => ∃ m, ixN xs.length k = some m ∧ Q (ρ4.set j (.ow (xs.set m d)))
        | some (.io xs) => ∃ m, ixN xs.length k = some m ∧ Q (ρ4.set j (.io (xs.set m d)))
        | _ => False)
      | _, _ => False
theorem u_sti {o i x : Ex} : RK.wS C E (.sti o i x) D ρ = RK.wE C x E ρ fun r ρ1 => keepR ρ1 r fun d ρ2 => RK.wE C o E ρ2 fun ro ρ3 => RK.wE C i E ρ3 fun ri ρ4 => stiK d ro (RK.get ρ4 ri) ρ4 D.nx := by first | rfl | (rw [RK.wE]; done) | (rw [RK.wS]; done) | (rw [RK.wSs]; done) | (rw [RK.wT]; done) | (rw [wRs]; done) | (rw [RK.wTs]; done) | (rw [RK.wI]; done) | (rw [RK.wE]; rfl) | (rw [RK.wS]; rfl) | (rw [RK.wTs]; rfl) | (simp only [RK.wT]; rfl)
theorem u_stiK_ow {d : RK.D} {j : Nat} {k : Int} {Q : En → Prop} : stiK d (.b j) (.int k) ρ Q = stK ρ[j]? d j k ρ Q := rfl
theorem u_stK_o {d : RK.D} {j : Nat} {k : Int} {xs : List RK.D} {Q : En → Prop} : stK (some (.ow xs)) d j k ρ Q = ∃ m, ixN xs.length k = some m ∧ Q (ρ.set j (.ow (xs.set m d))) := rfl
theorem u_stK_i {d : RK.D} {j : Nat} {k : Int} {xs : List RK.D} {Q : En → Prop} : stK (some (.io xs)) d j k ρ Q = ∃ m, ixN xs.length k = some m ∧ Q (ρ.set j (.io (xs.set m d))) := rfl
theorem u_ex {x : Ex} : RK.wS C E (.ex x) D ρ = RK.wE C x E ρ fun _ ρ1 => D.nx ρ1 := by first | rfl | (rw [RK.wE]; done) | (rw [RK.wS]; done) | (rw [RK.wSs]; done) | (rw [RK.wT]; done) | (rw [wRs]; done) | (rw [RK.wTs]; done) | (rw [RK.wI]; done) | (rw [RK.wE]; rfl) | (rw [RK.wS]; rfl) | (rw [RK.wTs]; rfl) | (simp only [RK.wT]; rfl)
theorem u_ifs {c : Ex} {a b : List Sm} : RK.wS C E (.ifs c a b) D ρ = RK.wT C c E ρ fun k ρ1 => brK k (RK.wSs C E a D) (RK.wSs C E b D) ρ1 := by first | rfl | (rw [RK.wE]; done) | (rw [RK.wS]; done) | (rw [RK.wSs]; done) | (rw [RK.wT]; done) | (rw [wRs]; done) | (rw [RK.wTs]; done) | (rw [RK.wI]; done) | (rw [RK.wE]; rfl) | (rw [RK.wS]; rfl) | (rw [RK.wTs]; rfl) | (simp only [RK.wT]; rfl)
theorem u_whil {c : Ex} {a : List Sm} : RK.wS C E (.whil c a) D ρ = whlK C E c a D ρ := by first | rfl | (rw [RK.wE]; done) | (rw [RK.wS]; done) | (rw [RK.wSs]; done) | (rw [RK.wT]; done) | (rw [wRs]; done) | (rw [RK.wTs]; done) | (rw [RK.wI]; done) | (rw [RK.wE]; rfl) | (rw [RK.wS]; rfl) | (rw [RK.wTs]; rfl) | (simp only [RK.wT]; rfl)
theorem u_for {t : Tg} {it : It'} {a : List Sm} : RK.wS C E (.for_ t it a) D ρ = RK.wI C it E ρ fun items ρ1 => forK C E t a D items ρ1 := by first | rfl | (rw [RK.wE]; done) | (rw [RK.wS]; done) | (rw [RK.wSs]; done) | (rw [RK.wT]; done) | (rw [wRs]; done) | (rw [RK.wTs]; done) | (rw [RK.wI]; done) | (rw [RK.wE]; rfl) | (rw [RK.wS]; rfl) | (rw [RK.wTs]; rfl) | (simp only [RK.wT]; rfl)
theorem u_forO {t : Tg} {en : Bool} {i : Nat} {a : List Sm} : RK.wS C E (.forO t en i a) D ρ = foK C E t en i a ρ[i]? D ρ := by
  rw [RK.wS]; rfl
theorem u_foK_o {t : Tg} {en : Bool} {i : Nat} {a : List Sm} {ds : List RK.D} : foK C E t en i a (some (.ow ds)) D ρ = forOK C E t a i ds D (itemsO en ds) (ρ.set i (.io ds)) := rfl
theorem u_itO0 {ds : List RK.D} : itemsO false ds = ds := rfl
theorem u_itO1 {ds : List RK.D} : itemsO true ds = enumL 0 ds := rfl
theorem u_ret {x : Ex} : RK.wS C E (.ret x) D ρ = RK.wE C x E ρ D.rt := by first | rfl | (rw [RK.wE]; done) | (rw [RK.wS]; done) | (rw [RK.wSs]; done) | (rw [RK.wT]; done) | (rw [wRs]; done) | (rw [RK.wTs]; done) | (rw [RK.wI]; done) | (rw [RK.wE]; rfl) | (rw [RK.wS]; rfl) | (rw [RK.wTs]; rfl) | (simp only [RK.wT]; rfl)
theorem u_brk : RK.wS C E .brk D ρ = D.bk ρ := by first | rfl | (rw [RK.wE]; done) | (rw [RK.wS]; done) | (rw [RK.wSs]; done) | (rw [RK.wT]; done) | (rw [wRs]; done) | (rw [RK.wTs]; done) | (rw [RK.wI]; done) | (rw [RK.wE]; rfl) | (rw [RK.wS]; rfl) | (rw [RK.wTs]; rfl) | (simp only [RK.wT]; rfl)
theorem u_cnt : RK.wS C E .cnt D ρ = D.ct ρ := by first | rfl | (rw [RK.wE]; done) | (rw [RK.wS]; done) | (rw [RK.wSs]; done) | (rw [RK.wT]; done) | (rw [wRs]; done) | (rw [RK.wTs]; done) | (rw [RK.wI]; done) | (rw [RK.wE]; rfl) | (rw [RK.wS]; rfl) | (rw [RK.wTs]; rfl) | (simp only [RK.wT]; rfl)
theorem u_pass : RK.wS C E .pass D ρ = D.nx ρ := by first | rfl | (rw [RK.wE]; done) | (rw [RK.wS]; done) | (rw [RK.wSs]; done) | (rw [RK.wT]; done) | (rw [wRs]; done) | (rw [RK.wTs]; done) | (rw [RK.wI]; done) | (rw [RK.wE]; rfl) | (rw [RK.wS]; rfl) | (rw [RK.wTs]; rfl) | (simp only [RK.wT]; rfl)
theorem u_rai {k : Nat} {m : Str} : RK.wS C E (.rai k m) D ρ = E ⟨k, []⟩ ρ := by first | rfl | (rw [RK.wE]; done) | (rw [RK.wS]; done) | (rw [RK.wSs]; done) | (rw [RK.wT]; done) | (rw [wRs]; done) | (rw [RK.wTs]; done) | (rw [RK.wI]; done) | (rw [RK.wE]; rfl) | (rw [RK.wS]; rfl) | (rw [RK.wTs]; rfl) | (simp only [RK.wT]; rfl)
theorem u_fg {pre post : List Bool} {s : Sm} : RK.wS C E (.fg pre post s) D ρ = RK.wS C E s ⟨fun ρ' => D.nx (fgE post ρ'), D.rt, D.bk, fun ρ' => D.ct (fgE post ρ')⟩ (fgE pre ρ) := by first | rfl | (rw [RK.wE]; done) | (rw [RK.wS]; done) | (rw [RK.wSs]; done) | (rw [RK.wT]; done) | (rw [wRs]; done) | (rw [RK.wTs]; done) | (rw [RK.wI]; done) | (rw [RK.wE]; rfl) | (rw [RK.wS]; rfl) | (rw [RK.wTs]; rfl) | (simp only [RK.wT]; rfl)
theorem u_br1 {a b : En → Prop} : brK true a b ρ = a ρ := by first | rfl | (rw [RK.wE]; done) | (rw [RK.wS]; done) | (rw [RK.wSs]; done) | (rw [RK.wT]; done) | (rw [wRs]; done) | (rw [RK.wTs]; done) | (rw [RK.wI]; done) | (rw [RK.wE]; rfl) | (rw [RK.wS]; rfl) | (rw [RK.wTs]; rfl) | (simp only [RK.wT]; rfl)
theorem u_br0 {a b : En → Prop} : brK false a b ρ = b ρ := by first | rfl | (rw [RK.wE]; done) | (rw [RK.wS]; done) | (rw [RK.wSs]; done) | (rw [RK.wT]; done) | (rw [wRs]; done) | (rw [RK.wTs]; done) | (rw [RK.wI]; done) | (rw [RK.wE]; rfl) | (rw [RK.wS]; rfl) | (rw [RK.wTs]; rfl) | (simp only [RK.wT]; rfl)
theorem u_brE1 {a b : Ex} : brE C E true a b ρ Q = RK.wE C a E ρ Q := by first | rfl | (rw [RK.wE]; done) | (rw [RK.wS]; done) | (rw [RK.wSs]; done) | (rw [RK.wT]; done) | (rw [wRs]; done) | (rw [RK.wTs]; done) | (rw [RK.wI]; done) | (rw [RK.wE]; rfl) | (rw [RK.wS]; rfl) | (rw [RK.wTs]; rfl) | (simp only [RK.wT]; rfl)
theorem u_brE0 {a b : Ex} : brE C E false a b ρ Q = RK.wE C b E ρ Q := by first | rfl | (rw [RK.wE]; done) | (rw [RK.wS]; done) | (rw [RK.wSs]; done) | (rw [RK.wT]; done) | (rw [wRs]; done) | (rw [RK.wTs]; done) | (rw [RK.wI]; done) | (rw [RK.wE]; rfl) | (rw [RK.wS]; rfl) | (rw [RK.wTs]; rfl) | (simp only [RK.wT]; rfl)
theorem u_brT1 {a : Ex} : brT C E true a ρ QB = RK.wT C a E ρ QB := by first | rfl | (rw [RK.wE]; done) | (rw [RK.wS]; done) | (rw [RK.wSs]; done) | (rw [RK.wT]; done) | (rw [wRs]; done) | (rw [RK.wTs]; done) | (rw [RK.wI]; done) | (rw [RK.wE]; rfl) | (rw [RK.wS]; rfl) | (rw [RK.wTs]; rfl) | (simp only [RK.wT]; rfl)
theorem u_brT0 {a : Ex} : brT C E false a ρ QB = QB false ρ := by first | rfl | (rw [RK.wE]; done) | (rw [RK.wS]; done) | (rw [RK.wSs]; done) | (rw [RK.wT]; done) | (rw [wRs]; done) | (rw [RK.wTs]; done) | (rw [RK.wI]; done) | (rw [RK.wE]; rfl) | (rw [RK.wS]; rfl) | (rw [RK.wTs]; rfl) | (simp only [RK.wT]; rfl)
theorem u_brF1 {a : Ex} : brF C E true a ρ QB = QB true ρ := by first | rfl | (rw [RK.wE]; done) | (rw [RK.wS]; done) | (rw [RK.wSs]; done) | (rw [RK.wT]; done) | (rw [wRs]; done) | (rw [RK.wTs]; done) | (rw [RK.wI]; done) | (rw [RK.wE]; rfl) | (rw [RK.wS]; rfl) | (rw [RK.wTs]; rfl) | (simp only [RK.wT]; rfl)
theorem u_brF0 {a : Ex} : brF C E false a ρ QB = RK.wT C a E ρ QB := by first | rfl | (rw [RK.wE]; done) | (rw [RK.wS]; done) | (rw [RK.wSs]; done) | (rw [RK.wT]; done) | (rw [wRs]; done) | (rw [RK.wTs]; done) | (rw [RK.wI]; done) | (rw [RK.wE]; rfl) | (rw [RK.wS]; rfl) | (rw [RK.wTs]; rfl) | (simp only [RK.wT]; rfl)
theorem u_an1 {r : R} {a : Ex} : anE C E (some true) r a ρ Q = RK.wE C a E ρ Q := by first | rfl | (rw [RK.wE]; done) | (rw [RK.wS]; done) | (rw [RK.wSs]; done) | (rw [RK.wT]; done) | (rw [wRs]; done) | (rw [RK.wTs]; done) | (rw [RK.wI]; done) | (rw [RK.wE]; rfl) | (rw [RK.wS]; rfl) | (rw [RK.wTs]; rfl) | (simp only [RK.wT]; rfl)
theorem u_an0 {r : R} {a : Ex} : anE C E (some false) r a ρ Q = Q r ρ := by first | rfl | (rw [RK.wE]; done) | (rw [RK.wS]; done) | (rw [RK.wSs]; done) | (rw [RK.wT]; done) | (rw [wRs]; done) | (rw [RK.wTs]; done) | (rw [RK.wI]; done) | (rw [RK.wE]; rfl) | (rw [RK.wS]; rfl) | (rw [RK.wTs]; rfl) | (simp only [RK.wT]; rfl)
theorem u_or1 {r : R} {a : Ex} : orE C E (some true) r a ρ Q = Q r ρ := by first | rfl | (rw [RK.wE]; done) | (rw [RK.wS]; done) | (rw [RK.wSs]; done) | (rw [RK.wT]; done) | (rw [wRs]; done) | (rw [RK.wTs]; done) | (rw [RK.wI]; done) | (rw [RK.wE]; rfl) | (rw [RK.wS]; rfl) | (rw [RK.wTs]; rfl) | (simp only [RK.wT]; rfl)
theorem u_or0 {r : R} {a : Ex} : orE C E (some false) r a ρ Q = RK.wE C a E ρ Q := by first | rfl | (rw [RK.wE]; done) | (rw [RK.wS]; done) | (rw [RK.wSs]; done) | (rw [RK.wT]; done) | (rw [wRs]; done) | (rw [RK.wTs]; done) | (rw [RK.wI]; done) | (rw [RK.wE]; rfl) | (rw [RK.wS]; rfl) | (rw [RK.wTs]; rfl) | (simp only [RK.wT]; rfl)
theorem u_c21 {op : COp} {r : R} {c : Ex} : c2E C E true op r c ρ Q = RK.wE C c E ρ fun r3 ρ3 => cmpD op (RK.get ρ3 r) (RK.get ρ3 r3) fun k' => Q (.v (.bl k')) ρ3 := by first | rfl | (rw [RK.wE]; done) | (rw [RK.wS]; done) | (rw [RK.wSs]; done) | (rw [RK.wT]; done) | (rw [wRs]; done) | (rw [RK.wTs]; done) | (rw [RK.wI]; done) | (rw [RK.wE]; rfl) | (rw [RK.wS]; rfl) | (rw [RK.wTs]; rfl) | (simp only [RK.wT]; rfl)
theorem u_c20 {op : COp} {r : R} {c : Ex} : c2E C E false op r c ρ Q = Q (.v (.bl false)) ρ := by first | rfl | (rw [RK.wE]; done) | (rw [RK.wS]; done) | (rw [RK.wSs]; done) | (rw [RK.wT]; done) | (rw [wRs]; done) | (rw [RK.wTs]; done) | (rw [RK.wI]; done) | (rw [RK.wE]; rfl) | (rw [RK.wS]; rfl) | (rw [RK.wTs]; rfl) | (simp only [RK.wT]; rfl)
theorem u_ts1 {cs : List Ex} : tsK C E true cs ρ QB = RK.wTs C cs E ρ QB := by first | rfl | (rw [RK.wE]; done) | (rw [RK.wS]; done) | (rw [RK.wSs]; done) | (rw [RK.wT]; done) | (rw [wRs]; done) | (rw [RK.wTs]; done) | (rw [RK.wI]; done) | (rw [RK.wE]; rfl) | (rw [RK.wS]; rfl) | (rw [RK.wTs]; rfl) | (simp only [RK.wT]; rfl)
theorem u_ts0 {cs : List Ex} : tsK C E false cs ρ QB = QB false ρ := by first | rfl | (rw [RK.wE]; done) | (rw [RK.wS]; done) | (rw [RK.wSs]; done) | (rw [RK.wT]; done) | (rw [wRs]; done) | (rw [RK.wTs]; done) | (rw [RK.wI]; done) | (rw [RK.wE]; rfl) | (rw [RK.wS]; rfl) | (rw [RK.wTs]; rfl) | (simp only [RK.wT]; rfl)
theorem u_el1 {elt : Ex} {k : Option RK.D → En → Prop} : elK C true elt ρ k = RK.wE C elt (fun _ _ => False) ρ fun r ρ5 => keepR ρ5 r fun x ρ6 => k (some x) ρ6 := by first | rfl | (rw [RK.wE]; done) | (rw [RK.wS]; done) | (rw [RK.wSs]; done) | (rw [RK.wT]; done) | (rw [wRs]; done) | (rw [RK.wTs]; done) | (rw [RK.wI]; done) | (rw [RK.wE]; rfl) | (rw [RK.wS]; rfl) | (rw [RK.wTs]; rfl) | (simp only [RK.wT]; rfl)
theorem u_el0 {elt : Ex} {k : Option RK.D → En → Prop} : elK C false elt ρ k = k none ρ := by first | rfl | (rw [RK.wE]; done) | (rw [RK.wS]; done) | (rw [RK.wSs]; done) | (rw [RK.wT]; done) | (rw [wRs]; done) | (rw [RK.wTs]; done) | (rw [RK.wI]; done) | (rw [RK.wE]; rfl) | (rw [RK.wS]; rfl) | (rw [RK.wTs]; rfl) | (simp only [RK.wT]; rfl)
theorem u_v {i : Nat} : RK.wE C (.v i) E ρ Q = vK ρ[i]? i ρ Q := by rw [RK.wE]; rfl
theorem u_vK_v {i : Nat} {d : RK.D} : vK (some (.v d)) i ρ Q = Q (.v d) ρ := rfl
theorem u_vK_o {i : Nat} {d : List RK.D} : vK (some (.ow d)) i ρ Q = Q (.b i) ρ := rfl
theorem u_vK_i {i : Nat} {d : List RK.D} : vK (some (.io d)) i ρ Q = Q (.b i) ρ := rfl
theorem u_c {d : Lt} : RK.wE C (.c d) E ρ Q = Q (.v d.d) ρ := by first | rfl | (rw [RK.wE]; done) | (rw [RK.wS]; done) | (rw [RK.wSs]; done) | (rw [RK.wT]; done) | (rw [wRs]; done) | (rw [RK.wTs]; done) | (rw [RK.wI]; done) | (rw [RK.wE]; rfl) | (rw [RK.wS]; rfl) | (rw [RK.wTs]; rfl) | (simp only [RK.wT]; rfl)
theorem u_g {x : Str} : RK.wE C (.g x) E ρ Q = gK (C.gl x) ρ Q := by rw [RK.wE]; rfl
theorem u_gK {d : RK.D} : gK (some d) ρ Q = Q (.v d) ρ := rfl
theorem u_bin {op : BOp} {a b : Ex} : RK.wE C (.bin op a b) E ρ Q = RK.wE C a E ρ fun r1 ρ1 => RK.wE C b E ρ1 fun r2 ρ2 => binD op (RK.get ρ2 r1) (RK.get ρ2 r2) fun r => Q r ρ2 := by first | rfl | (rw [RK.wE]; done) | (rw [RK.wS]; done) | (rw [RK.wSs]; done) | (rw [RK.wT]; done) | (rw [wRs]; done) | (rw [RK.wTs]; done) | (rw [RK.wI]; done) | (rw [RK.wE]; rfl) | (rw [RK.wS]; rfl) | (rw [RK.wTs]; rfl) | (simp only [RK.wT]; rfl)
theorem u_neg {a : Ex} : RK.wE C (.neg a) E ρ Q = RK.wE C a E ρ fun r ρ1 => ngK (RK.get ρ1 r) ρ1 Q := by rw [RK.wE]; rfl
theorem u_ngK {i : Int} : ngK (.int i) ρ Q = Q (.v (.int (-i))) ρ := rfl
theorem u_cmp {op : COp} {a b : Ex} : RK.wE C (.cmp op a b) E ρ Q = RK.wE C a E ρ fun r1 ρ1 => RK.wE C b E ρ1 fun r2 ρ2 => cmpD op (RK.get ρ2 r1) (RK.get ρ2 r2) fun c => Q (.v (.bl c)) ρ2 := by first | rfl | (rw [RK.wE]; done) | (rw [RK.wS]; done) | (rw [RK.wSs]; done) | (rw [RK.wT]; done) | (rw [wRs]; done) | (rw [RK.wTs]; done) | (rw [RK.wI]; done) | (rw [RK.wE]; rfl) | (rw [RK.wS]; rfl) | (rw [RK.wTs]; rfl) | (simp only [RK.wT]; rfl)
theorem u_cmp2 {op op' : COp} {a b c : Ex} : RK.wE C (.cmp2 op op' a b c) E ρ Q = RK.wE C a E ρ fun r1 ρ1 => RK.wE C b E ρ1 fun r2 ρ2 => cmpD op (RK.get ρ2 r1) (RK.get ρ2 r2) fun k => c2E C E k op' r2 c ρ2 Q := by first | rfl | (rw [RK.wE]; done) | (rw [RK.wS]; done) | (rw [RK.wSs]; done) | (rw [RK.wT]; done) | (rw [wRs]; done) | (rw [RK.wTs]; done) | (rw [RK.wI]; done) | (rw [RK.wE]; rfl) | (rw [RK.wS]; rfl) | (rw [RK.wTs]; rfl) | (simp only [RK.wT]; rfl)
theorem u_and {a b : Ex} : RK.wE C (.and_ a b) E ρ Q = RK.wE C a E ρ fun r ρ1 => anE C E (truD (RK.get ρ1 r)) r b ρ1 Q := by
  rw [RK.wE]
  rfl
theorem u_or {a b : Ex} : RK.wE C (.or_ a b) E ρ Q = RK.wE C a E ρ fun r ρ1 => orE C E (truD (RK.get ρ1 r)) r b ρ1 Q := by
  rw [RK.wE]
  rfl
theorem u_not {a : Ex} : RK.wE C (.not_ a) E ρ Q = RK.wE C a E ρ fun r ρ1 => ntK (truD (RK.get ρ1 r)) ρ1 Q := by rw [RK.wE]; rfl
theorem u_ntK {k : Bool} : ntK (some k) ρ Q = Q (.v (.bl (!k))) ρ := rfl
theorem u_ite {c a b : Ex} : RK.wE C (.ite c a b) E ρ Q = RK.wT C c E ρ fun k ρ1 => brE C E k a b ρ1 Q := by first | rfl | (rw [RK.wE]; done) | (rw [RK.wS]; done) | (rw [RK.wSs]; done) | (rw [RK.wT]; done) | (rw [wRs]; done) | (rw [RK.wTs]; done) | (rw [RK.wI]; done) | (rw [RK.wE]; rfl) | (rw [RK.wS]; rfl) | (rw [RK.wTs]; rfl) | (simp only [RK.wT]; rfl)
theorem u_tup {es : List Ex} : RK.wE C (.tup es) E ρ Q = wRs C es E ρ fun rs ρ1 => keepRs ρ1 rs fun ds ρ2 => ds.length ≤ sizeLine ∧ Q (.v (.tup ds)) ρ2 := by first | rfl | (rw [RK.wE]; done) | (rw [RK.wS]; done) | (rw [RK.wSs]; done) | (rw [RK.wT]; done) | (rw [wRs]; done) | (rw [RK.wTs]; done) | (rw [RK.wI]; done) | (rw [RK.wE]; rfl) | (rw [RK.wS]; rfl) | (rw [RK.wTs]; rfl) | (simp only [RK.wT]; rfl)
theorem u_lst {es : List Ex} : RK.wE C (.lst es) E ρ Q = wRs C es E ρ fun rs ρ1 => keepRs ρ1 rs fun ds ρ2 => ds.length ≤ sizeLine ∧ Q (.f ds) ρ2 := by first | rfl | (rw [RK.wE]; done) | (rw [RK.wS]; done) | (rw [RK.wSs]; done) | (rw [RK.wT]; done) | (rw [wRs]; done) | (rw [RK.wTs]; done) | (rw [RK.wI]; done) | (rw [RK.wE]; rfl) | (rw [RK.wS]; rfl) | (rw [RK.wTs]; rfl) | (simp only [RK.wT]; rfl)
theorem u_call {f : Nat} {es : List Ex} : RK.wE C (.call f es) E ρ Q = wRs C es E ρ fun rs ρ1 => callD C f rs ρ1 Q E := by first | rfl | (rw [RK.wE]; done) | (rw [RK.wS]; done) | (rw [RK.wSs]; done) | (rw [RK.wT]; done) | (rw [wRs]; done) | (rw [RK.wTs]; done) | (rw [RK.wI]; done) | (rw [RK.wE]; rfl) | (rw [RK.wS]; rfl) | (rw [RK.wTs]; rfl) | (simp only [RK.wT]; rfl)
theorem u_bi {b : Bi} {es : List Ex} : RK.wE C (.bi b es) E ρ Q = wRs C es E ρ fun rs ρ1 => biD b (rs.map (RK.get ρ1)) fun r => Q r ρ1 := by first | rfl | (rw [RK.wE]; done) | (rw [RK.wS]; done) | (rw [RK.wSs]; done) | (rw [RK.wT]; done) | (rw [wRs]; done) | (rw [RK.wTs]; done) | (rw [RK.wI]; done) | (rw [RK.wE]; rfl) | (rw [RK.wS]; rfl) | (rw [RK.wTs]; rfl) | (simp only [RK.wT]; rfl)
theorem u_isi {a : Ex} {t : String} : RK.wE C (.isi a t) E ρ Q = RK.wE C a E ρ fun r ρ1 => isK (isiD (RK.get ρ1 r) t) ρ1 Q := by rw [RK.wE]; rfl
theorem u_isK {k : Bool} : isK (some k) ρ Q = Q (.v (.bl k)) ρ := rfl
theorem u_idx {a i : Ex} : RK.wE C (.idx a i) E ρ Q = RK.wE C a E ρ fun r1 ρ1 => RK.wE C i E ρ1 fun r2 ρ2 => idxD (RK.get ρ2 r1) (RK.get ρ2 r2) fun d => Q (.v d) ρ2 := by first | rfl | (rw [RK.wE]; done) | (rw [RK.wS]; done) | (rw [RK.wSs]; done) | (rw [RK.wT]; done) | (rw [wRs]; done) | (rw [RK.wTs]; done) | (rw [RK.wI]; done) | (rw [RK.wE]; rfl) | (rw [RK.wS]; rfl) | (rw [RK.wTs]; rfl) | (simp only [RK.wT]; rfl)
theorem u_comp {elt : Ex} {tg : Tg} {it : It'} {ifs : List Ex} {own : List (Str × Nat)} : RK.wE C (.comp elt tg it ifs own) E ρ Q = ((∀ p ∈ own, isOwn ρ[p.2]? = false) ∧ RK.wI C it E ρ fun items ρ1 => compK C elt tg ifs (own.map (·.2)) ρ1 items Q) := by first | rfl | (rw [RK.wE]; done) | (rw [RK.wS]; done) | (rw [RK.wSs]; done) | (rw [RK.wT]; done) | (rw [wRs]; done) | (rw [RK.wTs]; done) | (rw [RK.wI]; done) | (rw [RK.wE]; rfl) | (rw [RK.wS]; rfl) | (rw [RK.wTs]; rfl) | (simp only [RK.wT]; rfl)
theorem u_slc {a : Ex} {lo hi : List Ex} : RK.wE C (.slc a lo hi) E ρ Q = RK.wE C a E ρ fun r ρ1 => wRs C lo E ρ1 fun l ρ2 => optK (optI (l.map (RK.get ρ2))) fun lo' => wRs C hi E ρ2 fun h ρ3 => optK (optI (h.map (RK.get ρ3))) fun hi' => slcD (RK.get ρ3 r) lo' hi' fun x => Q x ρ3 := by first | rfl | (rw [RK.wE]; done) | (rw [RK.wT]; done) | (rw [RK.wI]; done) | (rw [RK.wE]; rfl) | (rw [RK.wI]; rfl) | (simp only [RK.wT]; rfl)
theorem u_t_slc {a : Ex} {lo hi : List Ex} : RK.wT C (.slc a lo hi) E ρ QB = RK.wE C (.slc a lo hi) E ρ fun r ρ1 => tK (truD (RK.get ρ1 r)) ρ1 QB := by first | rfl | (rw [RK.wE]; done) | (rw [RK.wT]; done) | (rw [RK.wI]; done) | (rw [RK.wE]; rfl) | (rw [RK.wI]; rfl) | (simp only [RK.wT]; rfl)
theorem u_izip {a b : Ex} {QL : List RK.D → En → Prop} : RK.wI C (.zip a b) E ρ QL = RK.wE C a E ρ fun r1 ρ1 => RK.wE C b E ρ1 fun r2 ρ2 => keepR ρ2 r1 fun d1 ρ3 => keepR ρ3 r2 fun d2 ρ4 => zipD d1 d2 fun xs => QL xs ρ4 := by first | rfl | (rw [RK.wE]; done) | (rw [RK.wT]; done) | (rw [RK.wI]; done) | (rw [RK.wE]; rfl) | (rw [RK.wI]; rfl) | (simp only [RK.wT]; rfl)
theorem u_ienum {a : Ex} {QL : List RK.D → En → Prop} : RK.wI C (.enum a) E ρ QL = RK.wE C a E ρ fun r ρ1 => keepR ρ1 r fun d ρ2 => enumD d fun xs => QL xs ρ2 := by first | rfl | (rw [RK.wE]; done) | (rw [RK.wT]; done) | (rw [RK.wI]; done) | (rw [RK.wE]; rfl) | (rw [RK.wI]; rfl) | (simp only [RK.wT]; rfl)
theorem u_rev {a : Ex} : RK.wE C (.rev a) E ρ Q = RK.wE C a E ρ fun r ρ1 => revD (RK.get ρ1 r) fun x => Q x ρ1 := by first | rfl | (rw [RK.wE]; done) | (rw [RK.wT]; done) | (rw [RK.wI]; done) | (rw [RK.wE]; rfl) | (rw [RK.wI]; rfl) | (simp only [RK.wT]; rfl)
theorem u_rgv {t : Bool} {es : List Ex} : RK.wE C (.rgv t es) E ρ Q = wRs C es E ρ fun rs ρ1 => rgvD t (rs.map (RK.get ρ1)) fun x => Q x ρ1 := by first | rfl | (rw [RK.wE]; done) | (rw [RK.wT]; done) | (rw [RK.wI]; done) | (rw [RK.wE]; rfl) | (rw [RK.wI]; rfl) | (simp only [RK.wT]; rfl)
theorem u_meth {m : Me} {o : Ex} {es : List Ex} : RK.wE C (.meth m o es) E ρ Q = RK.wE C o E ρ fun r ρ1 => isL (RK.get ρ1 r) = true ∧ wRs C es E ρ1 fun rs ρ2 => keepRs ρ2 rs fun ds ρ3 => methD m r ds ρ3 Q := by first | rfl | (rw [RK.wE]; done) | (rw [RK.wS]; done) | (rw [RK.wSs]; done) | (rw [RK.wT]; done) | (rw [wRs]; done) | (rw [RK.wTs]; done) | (rw [RK.wI]; done) | (rw [RK.wE]; rfl) | (rw [RK.wS]; rfl) | (rw [RK.wTs]; rfl) | (simp only [RK.wT]; rfl)
theorem u_rs0 {QR : List R → En → Prop} : wRs C [] E ρ QR = QR [] ρ := by first | rfl | (rw [RK.wE]; done) | (rw [RK.wS]; done) | (rw [RK.wSs]; done) | (rw [RK.wT]; done) | (rw [wRs]; done) | (rw [RK.wTs]; done) | (rw [RK.wI]; done) | (rw [RK.wE]; rfl) | (rw [RK.wS]; rfl) | (rw [RK.wTs]; rfl) | (simp only [RK.wT]; rfl)
theorem u_rs1 {e : Ex} {es : List Ex} {QR : List R → En → Prop} : wRs C (e :: es) E ρ QR = RK.wE C e E ρ fun r ρ1 => wRs C es E ρ1 fun rs ρ2 => QR (r :: rs) ρ2 := by first | rfl | (rw [RK.wE]; done) | (rw [RK.wS]; done) | (rw [RK.wSs]; done) | (rw [RK.wT]; done) | (rw [wRs]; done) | (rw [RK.wTs]; done) | (rw [RK.wI]; done) | (rw [RK.wE]; rfl) | (rw [RK.wS]; rfl) | (rw [RK.wTs]; rfl) | (simp only [RK.wT]; rfl)
theorem u_tAnd {a b : Ex} : RK.wT C (.and_ a b) E ρ QB = RK.wT C a E ρ fun c ρ1 => brT C E c b ρ1 QB := by first | rfl | (rw [RK.wE]; done) | (rw [RK.wS]; done) | (rw [RK.wSs]; done) | (rw [RK.wT]; done) | (rw [wRs]; done) | (rw [RK.wTs]; done) | (rw [RK.wI]; done) | (rw [RK.wE]; rfl) | (rw [RK.wS]; rfl) | (rw [RK.wTs]; rfl) | (simp only [RK.wT]; rfl)
theorem u_tOr {a b : Ex} : RK.wT C (.or_ a b) E ρ QB = RK.wT C a E ρ fun c ρ1 => brF C E c b ρ1 QB := by first | rfl | (rw [RK.wE]; done) | (rw [RK.wS]; done) | (rw [RK.wSs]; done) | (rw [RK.wT]; done) | (rw [wRs]; done) | (rw [RK.wTs]; done) | (rw [RK.wI]; done) | (rw [RK.wE]; rfl) | (rw [RK.wS]; rfl) | (rw [RK.wTs]; rfl) | (simp only [RK.wT]; rfl)
theorem u_tNot {a : Ex} : RK.wT C (.not_ a) E ρ QB = RK.wT C a E ρ fun c ρ1 => QB (!c) ρ1 := by first | rfl | (rw [RK.wE]; done) | (rw [RK.wS]; done) | (rw [RK.wSs]; done) | (rw [RK.wT]; done) | (rw [wRs]; done) | (rw [RK.wTs]; done) | (rw [RK.wI]; done) | (rw [RK.wE]; rfl) | (rw [RK.wS]; rfl) | (rw [RK.wTs]; rfl) | (simp only [RK.wT]; rfl)
theorem u_tk {b : Bool} : tK (some b) ρ QB = QB b ρ := by first | rfl | (rw [RK.wE]; done) | (rw [RK.wS]; done) | (rw [RK.wSs]; done) | (rw [RK.wT]; done) | (rw [wRs]; done) | (rw [RK.wTs]; done) | (rw [RK.wI]; done) | (rw [RK.wE]; rfl) | (rw [RK.wS]; rfl) | (rw [RK.wTs]; rfl) | (simp only [RK.wT]; rfl)
theorem u_t_v {i : Nat} : RK.wT C (.v i) E ρ QB = RK.wE C (.v i) E ρ fun r ρ1 => tK (truD (RK.get ρ1 r)) ρ1 QB := by first | rfl | (rw [RK.wE]; done) | (rw [RK.wS]; done) | (rw [RK.wSs]; done) | (rw [RK.wT]; done) | (rw [wRs]; done) | (rw [RK.wTs]; done) | (rw [RK.wI]; done) | (rw [RK.wE]; rfl) | (rw [RK.wS]; rfl) | (rw [RK.wTs]; rfl) | (simp only [RK.wT]; rfl)
theorem u_t_c {d : Lt} : RK.wT C (.c d) E ρ QB = RK.wE C (.c d) E ρ fun r ρ1 => tK (truD (RK.get ρ1 r)) ρ1 QB := by first | rfl | (rw [RK.wE]; done) | (rw [RK.wS]; done) | (rw [RK.wSs]; done) | (rw [RK.wT]; done) | (rw [wRs]; done) | (rw [RK.wTs]; done) | (rw [RK.wI]; done) | (rw [RK.wE]; rfl) | (rw [RK.wS]; rfl) | (rw [RK.wTs]; rfl) | (simp only [RK.wT]; rfl)
theorem u_t_g {x : Str} : RK.wT C (.g x) E ρ QB = RK.wE C (.g x) E ρ fun r ρ1 => tK (truD (RK.get ρ1 r)) ρ1 QB := by first | rfl | (rw [RK.wE]; done) | (rw [RK.wS]; done) | (rw [RK.wSs]; done) | (rw [RK.wT]; done) | (rw [wRs]; done) | (rw [RK.wTs]; done) | (rw [RK.wI]; done) | (rw [RK.wE]; rfl) | (rw [RK.wS]; rfl) | (rw [RK.wTs]; rfl) | (simp only [RK.wT]; rfl)
theorem u_t_bin {op : BOp} {a b : Ex} : RK.wT C (.bin op a b) E ρ QB = RK.wE C (.bin op a b) E ρ fun r ρ1 => tK (truD (RK.get ρ1 r)) ρ1 QB := by first | rfl | (rw [RK.wE]; done) | (rw [RK.wS]; done) | (rw [RK.wSs]; done) | (rw [RK.wT]; done) | (rw [wRs]; done) | (rw [RK.wTs]; done) | (rw [RK.wI]; done) | (rw [RK.wE]; rfl) | (rw [RK.wS]; rfl) | (rw [RK.wTs]; rfl) | (simp only [RK.wT]; rfl)
theorem u_t_cmp {op : COp} {a b : Ex} : RK.wT C (.cmp op a b) E ρ QB = RK.wE C (.cmp op a b) E ρ fun r ρ1 => tK (truD (RK.get ρ1 r)) ρ1 QB := by first | rfl | (rw [RK.wE]; done) | (rw [RK.wS]; done) | (rw [RK.wSs]; done) | (rw [RK.wT]; done) | (rw [wRs]; done) | (rw [RK.wTs]; done) | (rw [RK.wI]; done) | (rw [RK.wE]; rfl) | (rw [RK.wS]; rfl) | (rw [RK.wTs]; rfl) | (simp only [RK.wT]; rfl)
theorem u_t_cmp2 {op op' : COp} {a b c : Ex} : RK.wT C (.cmp2 op op' a b c) E ρ QB = RK.wE C (.cmp2 op op' a b c) E ρ fun r ρ1 => tK (truD (RK.get ρ1 r)) ρ1 QB := by first | rfl | (rw [RK.wE]; done) | (rw [RK.wS]; done) | (rw [RK.wSs]; done) | (rw [RK.wT]; done) | (rw [wRs]; done) | (rw [RK.wTs]; done) | (rw [RK.wI]; done) | (rw [RK.wE]; rfl) | (rw [RK.wS]; rfl) | (rw [RK.wTs]; rfl) | (simp only [RK.wT]; rfl)
theorem u_t_call {f : Nat} {es : List Ex} : RK.wT C (.call f es) E ρ QB = RK.wE C (.call f es) E ρ fun r ρ1 => tK (truD (RK.get ρ1 r)) ρ1 QB := by first | rfl | (rw [RK.wE]; done) | (rw [RK.wS]; done) | (rw [RK.wSs]; done) | (rw [RK.wT]; done) | (rw [wRs]; done) | (rw [RK.wTs]; done) | (rw [RK.wI]; done) | (rw [RK.wE]; rfl) | (rw [RK.wS]; rfl) | (rw [RK.wTs]; rfl) | (simp only [RK.wT]; rfl)
theorem u_t_bi {b : Bi} {es : List Ex} : RK.wT C (.bi b es) E ρ QB = RK.wE C (.bi b es) E ρ fun r ρ1 => tK (truD (RK.get ρ1 r)) ρ1 QB := by first | rfl | (rw [RK.wE]; done) | (rw [RK.wS]; done) | (rw [RK.wSs]; done) | (rw [RK.wT]; done) | (rw [wRs]; done) | (rw [RK.wTs]; done) | (rw [RK.wI]; done) | (rw [RK.wE]; rfl) | (rw [RK.wS]; rfl) | (rw [RK.wTs]; rfl) | (simp only [RK.wT]; rfl)
theorem u_t_isi {a : Ex} {t : String} : RK.wT C (.isi a t) E ρ QB = RK.wE C (.isi a t) E ρ fun r ρ1 => tK (truD (RK.get ρ1 r)) ρ1 QB := by first | rfl | (rw [RK.wE]; done) | (rw [RK.wS]; done) | (rw [RK.wSs]; done) | (rw [RK.wT]; done) | (rw [wRs]; done) | (rw [RK.wTs]; done) | (rw [RK.wI]; done) | (rw [RK.wE]; rfl) | (rw [RK.wS]; rfl) | (rw [RK.wTs]; rfl) | (simp only [RK.wT]; rfl)
theorem u_t_idx {a i : Ex} : RK.wT C (.idx a i) E ρ QB = RK.wE C (.idx a i) E ρ fun r ρ1 => tK (truD (RK.get ρ1 r)) ρ1 QB := by first | rfl | (rw [RK.wE]; done) | (rw [RK.wS]; done) | (rw [RK.wSs]; done) | (rw [RK.wT]; done) | (rw [wRs]; done) | (rw [RK.wTs]; done) | (rw [RK.wI]; done) | (rw [RK.wE]; rfl) | (rw [RK.wS]; rfl) | (rw [RK.wTs]; rfl) | (simp only [RK.wT]; rfl)
theorem u_t_meth {m : Me} {o : Ex} {es : List Ex} : RK.wT C (.meth m o es) E ρ QB = RK.wE C (.meth m o es) E ρ fun r ρ1 => tK (truD (RK.get ρ1 r)) ρ1 QB := by first | rfl | (rw [RK.wE]; done) | (rw [RK.wS]; done) | (rw [RK.wSs]; done) | (rw [RK.wT]; done) | (rw [wRs]; done) | (rw [RK.wTs]; done) | (rw [RK.wI]; done) | (rw [RK.wE]; rfl) | (rw [RK.wS]; rfl) | (rw [RK.wTs]; rfl) | (simp only [RK.wT]; rfl)
theorem u_t_comp {elt : Ex} {tg : Tg} {it : It'} {ifs : List Ex} {own : List (Str × Nat)} : RK.wT C (.comp elt tg it ifs own) E ρ QB = RK.wE C (.comp elt tg it ifs own) E ρ fun r ρ1 => tK (truD (RK.get ρ1 r)) ρ1 QB := by first | rfl | (rw [RK.wE]; done) | (rw [RK.wS]; done) | (rw [RK.wSs]; done) | (rw [RK.wT]; done) | (rw [wRs]; done) | (rw [RK.wTs]; done) | (rw [RK.wI]; done) | (rw [RK.wE]; rfl) | (rw [RK.wS]; rfl) | (rw [RK.wTs]; rfl) | (simp only [RK.wT]; rfl)
theorem u_ts_nil : RK.wTs C [] E ρ QB = QB true ρ := by first | rfl | (rw [RK.wE]; done) | (rw [RK.wS]; done) | (rw [RK.wSs]; done) | (rw [RK.wT]; done) | (rw [wRs]; done) | (rw [RK.wTs]; done) | (rw [RK.wI]; done) | (rw [RK.wE]; rfl) | (rw [RK.wS]; rfl) | (rw [RK.wTs]; rfl) | (simp only [RK.wT]; rfl)
theorem u_ts_cons {c : Ex} {cs : List Ex} : RK.wTs C (c :: cs) E ρ QB = RK.wT C c E ρ fun k ρ1 => tsK C E k cs ρ1 QB := by first | rfl | (rw [RK.wE]; done) | (rw [RK.wS]; done) | (rw [RK.wSs]; done) | (rw [RK.wT]; done) | (rw [wRs]; done) | (rw [RK.wTs]; done) | (rw [RK.wI]; done) | (rw [RK.wE]; rfl) | (rw [RK.wS]; rfl) | (rw [RK.wTs]; rfl) | (simp only [RK.wT]; rfl)
theorem u_ie {x : Ex} {QL : List RK.D → En → Prop} : RK.wI C (.e x) E ρ QL = RK.wE C x E ρ fun r ρ1 => keepR ρ1 r fun d ρ2 => itemsD d fun xs => QL xs ρ2 := by first | rfl | (rw [RK.wE]; done) | (rw [RK.wS]; done) | (rw [RK.wSs]; done) | (rw [RK.wT]; done) | (rw [wRs]; done) | (rw [RK.wTs]; done) | (rw [RK.wI]; done) | (rw [RK.wE]; rfl) | (rw [RK.wS]; rfl) | (rw [RK.wTs]; rfl) | (simp only [RK.wT]; rfl)
theorem u_irng {es : List Ex} {QL : List RK.D → En → Prop} : RK.wI C (.rng es) E ρ QL = wRs C es E ρ fun rs ρ1 => rngD (rs.map (RK.get ρ1)) fun xs => QL xs ρ1 := by first | rfl | (rw [RK.wE]; done) | (rw [RK.wS]; done) | (rw [RK.wSs]; done) | (rw [RK.wT]; done) | (rw [wRs]; done) | (rw [RK.wTs]; done) | (rw [RK.wI]; done) | (rw [RK.wE]; rfl) | (rw [RK.wS]; rfl) | (rw [RK.wTs]; rfl) | (simp only [RK.wT]; rfl)
theorem u_kv {d : RK.D} {Q : RK.D → En → Prop} : keepR ρ (.v d) Q = Q d ρ := by first | rfl | (rw [RK.wE]; done) | (rw [RK.wS]; done) | (rw [RK.wSs]; done) | (rw [RK.wT]; done) | (rw [wRs]; done) | (rw [RK.wTs]; done) | (rw [RK.wI]; done) | (rw [RK.wE]; rfl) | (rw [RK.wS]; rfl) | (rw [RK.wTs]; rfl) | (simp only [RK.wT]; rfl)
theorem u_kf {ds : List RK.D} {Q : RK.D → En → Prop} : keepR ρ (.f ds) Q = Q (.lst ds) ρ := by first | rfl | (rw [RK.wE]; done) | (rw [RK.wS]; done) | (rw [RK.wSs]; done) | (rw [RK.wT]; done) | (rw [wRs]; done) | (rw [RK.wTs]; done) | (rw [RK.wI]; done) | (rw [RK.wE]; rfl) | (rw [RK.wS]; rfl) | (rw [RK.wTs]; rfl) | (simp only [RK.wT]; rfl)
theorem u_kb {i : Nat} {Q : RK.D → En → Prop} : keepR ρ (.b i) Q = kbK ρ[i]? i ρ Q := rfl
theorem u_kbK_v {i : Nat} {d : RK.D} {Q : RK.D → En → Prop} : kbK (some (.v d)) i ρ Q = Q d ρ := rfl
theorem u_kbK_o {i : Nat} {ds : List RK.D} {Q : RK.D → En → Prop} : kbK (some (.ow ds)) i ρ Q = Q (.lst ds) (ρ.set i (.v (.lst ds))) := rfl
theorem u_ks0 {Q : List RK.D → En → Prop} : keepRs ρ [] Q = Q [] ρ := by first | rfl | (rw [RK.wE]; done) | (rw [RK.wS]; done) | (rw [RK.wSs]; done) | (rw [RK.wT]; done) | (rw [wRs]; done) | (rw [RK.wTs]; done) | (rw [RK.wI]; done) | (rw [RK.wE]; rfl) | (rw [RK.wS]; rfl) | (rw [RK.wTs]; rfl) | (simp only [RK.wT]; rfl)
theorem u_ks1 {r : R} {rs : List R} {Q : List RK.D → En → Prop} : keepRs ρ (r :: rs) Q = keepR ρ r fun d ρ1 => keepRs ρ1 rs fun ds ρ2 => Q (d :: ds) ρ2 := by first | rfl | (rw [RK.wE]; done) | (rw [RK.wS]; done) | (rw [RK.wSs]; done) | (rw [RK.wT]; done) | (rw [wRs]; done) | (rw [RK.wTs]; done) | (rw [RK.wI]; done) | (rw [RK.wE]; rfl) | (rw [RK.wS]; rfl) | (rw [RK.wTs]; rfl) | (simp only [RK.wT]; rfl)
theorem u_kBv {d : RK.D} : keepB ρ (.v d) Q = Q (.v d) ρ := by first | rfl | (rw [RK.wE]; done) | (rw [RK.wS]; done) | (rw [RK.wSs]; done) | (rw [RK.wT]; done) | (rw [wRs]; done) | (rw [RK.wTs]; done) | (rw [RK.wI]; done) | (rw [RK.wE]; rfl) | (rw [RK.wS]; rfl) | (rw [RK.wTs]; rfl) | (simp only [RK.wT]; rfl)
theorem u_kBf {ds : List RK.D} : keepB ρ (.f ds) Q = Q (.f ds) ρ := by first | rfl | (rw [RK.wE]; done) | (rw [RK.wS]; done) | (rw [RK.wSs]; done) | (rw [RK.wT]; done) | (rw [wRs]; done) | (rw [RK.wTs]; done) | (rw [RK.wI]; done) | (rw [RK.wE]; rfl) | (rw [RK.wS]; rfl) | (rw [RK.wTs]; rfl) | (simp only [RK.wT]; rfl)
theorem u_kBb {i : Nat} : keepB ρ (.b i) Q = keepR ρ (.b i) fun d ρ1 => Q (.v d) ρ1 := by first | rfl | (rw [RK.wE]; done) | (rw [RK.wS]; done) | (rw [RK.wSs]; done) | (rw [RK.wT]; done) | (rw [wRs]; done) | (rw [RK.wTs]; done) | (rw [RK.wI]; done) | (rw [RK.wE]; rfl) | (rw [RK.wS]; rfl) | (rw [RK.wTs]; rfl) | (simp only [RK.wT]; rfl)
theorem u_kBs0 {Q : List R → En → Prop} : keepBs ρ [] Q = Q [] ρ := by first | rfl | (rw [RK.wE]; done) | (rw [RK.wS]; done) | (rw [RK.wSs]; done) | (rw [RK.wT]; done) | (rw [wRs]; done) | (rw [RK.wTs]; done) | (rw [RK.wI]; done) | (rw [RK.wE]; rfl) | (rw [RK.wS]; rfl) | (rw [RK.wTs]; rfl) | (simp only [RK.wT]; rfl)
theorem u_kBs1 {r : R} {rs : List R} {Q : List R → En → Prop} : keepBs ρ (r :: rs) Q = keepB ρ r fun r' ρ1 => keepBs ρ1 rs fun rs' ρ2 => Q (r' :: rs') ρ2 := by first | rfl | (rw [RK.wE]; done) | (rw [RK.wS]; done) | (rw [RK.wSs]; done) | (rw [RK.wT]; done) | (rw [wRs]; done) | (rw [RK.wTs]; done) | (rw [RK.wI]; done) | (rw [RK.wE]; rfl) | (rw [RK.wS]; rfl) | (rw [RK.wTs]; rfl) | (simp only [RK.wT]; rfl)
theorem u_sR0 {Q : En → Prop} : setRs ρ [] [] Q = Q ρ := by first | rfl | (rw [RK.wE]; done) | (rw [RK.wS]; done) | (rw [RK.wSs]; done) | (rw [RK.wT]; done) | (rw [wRs]; done) | (rw [RK.wTs]; done) | (rw [RK.wI]; done) | (rw [RK.wE]; rfl) | (rw [RK.wS]; rfl) | (rw [RK.wTs]; rfl) | (simp only [RK.wT]; rfl)
theorem u_sR1 {i : Nat} {is : List Nat} {r : R} {rs : List R} {Q : En → Prop} : setRs ρ (i :: is) (r :: rs) Q = (notIo ρ i = true ∧ setRs (ρ.set i (slR r)) is rs Q) := by first | rfl | (rw [RK.wE]; done) | (rw [RK.wS]; done) | (rw [RK.wSs]; done) | (rw [RK.wT]; done) | (rw [wRs]; done) | (rw [RK.wTs]; done) | (rw [RK.wI]; done) | (rw [RK.wE]; rfl) | (rw [RK.wS]; rfl) | (rw [RK.wTs]; rfl) | (simp only [RK.wT]; rfl)
theorem u_as0 {Q : En → Prop} : asgs ρ [] [] Q = Q ρ := by first | rfl | (rw [RK.wE]; done) | (rw [RK.wS]; done) | (rw [RK.wSs]; done) | (rw [RK.wT]; done) | (rw [wRs]; done) | (rw [RK.wTs]; done) | (rw [RK.wI]; done) | (rw [RK.wE]; rfl) | (rw [RK.wS]; rfl) | (rw [RK.wTs]; rfl) | (simp only [RK.wT]; rfl)
theorem u_as1 {i : Nat} {is : List Nat} {d : RK.D} {ds : List RK.D} {Q : En → Prop} : asgs ρ (i :: is) (d :: ds) Q = (notIo ρ i = true ∧ asgs (ρ.set i (.v d)) is ds Q) := by first | rfl | (rw [RK.wE]; done) | (rw [RK.wS]; done) | (rw [RK.wSs]; done) | (rw [RK.wT]; done) | (rw [wRs]; done) | (rw [RK.wTs]; done) | (rw [RK.wI]; done) | (rw [RK.wE]; rfl) | (rw [RK.wS]; rfl) | (rw [RK.wTs]; rfl) | (simp only [RK.wT]; rfl)
theorem u_slv {d : RK.D} : slR (.v d) = .v d := by first | rfl | (rw [RK.wE]; done) | (rw [RK.wS]; done) | (rw [RK.wSs]; done) | (rw [RK.wT]; done) | (rw [wRs]; done) | (rw [RK.wTs]; done) | (rw [RK.wI]; done) | (rw [RK.wE]; rfl) | (rw [RK.wS]; rfl) | (rw [RK.wTs]; rfl) | (simp only [RK.wT]; rfl)
theorem u_slf {ds : List RK.D} : slR (.f ds) = .ow ds := by first | rfl | (rw [RK.wE]; done) | (rw [RK.wS]; done) | (rw [RK.wSs]; done) | (rw [RK.wT]; done) | (rw [wRs]; done) | (rw [RK.wTs]; done) | (rw [RK.wI]; done) | (rw [RK.wE]; rfl) | (rw [RK.wS]; rfl) | (rw [RK.wTs]; rfl) | (simp only [RK.wT]; rfl)
theorem u_tv {i : Nat} {d : RK.D} {Q : En → Prop} : asgT (.n i) (.v d) ρ Q = (notIo ρ i = true ∧ Q (ρ.set i (.v d))) := by first | rfl | (rw [RK.wE]; done) | (rw [RK.wS]; done) | (rw [RK.wSs]; done) | (rw [RK.wT]; done) | (rw [wRs]; done) | (rw [RK.wTs]; done) | (rw [RK.wI]; done) | (rw [RK.wE]; rfl) | (rw [RK.wS]; rfl) | (rw [RK.wTs]; rfl) | (simp only [RK.wT]; rfl)
theorem u_tf {i : Nat} {ds : List RK.D} {Q : En → Prop} : asgT (.n i) (.f ds) ρ Q = (notIo ρ i = true ∧ Q (ρ.set i (.ow ds))) := by first | rfl | (rw [RK.wE]; done) | (rw [RK.wS]; done) | (rw [RK.wSs]; done) | (rw [RK.wT]; done) | (rw [wRs]; done) | (rw [RK.wTs]; done) | (rw [RK.wI]; done) | (rw [RK.wE]; rfl) | (rw [RK.wS]; rfl) | (rw [RK.wTs]; rfl) | (simp only [RK.wT]; rfl)
theorem u_tb {i j : Nat} {Q : En → Prop} : asgT (.n i) (.b j) ρ Q = (notIo ρ i = true ∧ keepR ρ (.b j) fun d ρ1 => Q (ρ1.set i (.v d))) := by first | rfl | (rw [RK.wE]; done) | (rw [RK.wS]; done) | (rw [RK.wSs]; done) | (rw [RK.wT]; done) | (rw [wRs]; done) | (rw [RK.wTs]; done) | (rw [RK.wI]; done) | (rw [RK.wE]; rfl) | (rw [RK.wS]; rfl) | (rw [RK.wTs]; rfl) | (simp only [RK.wT]; rfl)
theorem u_tt {l : List Nat} {ds : List RK.D} {Q : En → Prop} : asgT (.t l) (.v (.tup ds)) ρ Q = (ds.length = l.length ∧ asgs ρ l ds Q) := by first | rfl | (rw [RK.wE]; done) | (rw [RK.wS]; done) | (rw [RK.wSs]; done) | (rw [RK.wT]; done) | (rw [wRs]; done) | (rw [RK.wTs]; done) | (rw [RK.wI]; done) | (rw [RK.wE]; rfl) | (rw [RK.wS]; rfl) | (rw [RK.wTs]; rfl) | (simp only [RK.wT]; rfl)
theorem u_tl {l : List Nat} {ds : List RK.D} {Q : En → Prop} : asgT (.t l) (.v (.lst ds)) ρ Q = (ds.length = l.length ∧ asgs ρ l ds Q) := by first | rfl | (rw [RK.wE]; done) | (rw [RK.wS]; done) | (rw [RK.wSs]; done) | (rw [RK.wT]; done) | (rw [wRs]; done) | (rw [RK.wTs]; done) | (rw [RK.wI]; done) | (rw [RK.wE]; rfl) | (rw [RK.wS]; rfl) | (rw [RK.wTs]; rfl) | (simp only [RK.wT]; rfl)
theorem u_tfl {l : List Nat} {ds : List RK.D} {Q : En → Prop} : asgT (.t l) (.f ds) ρ Q = (ds.length = l.length ∧ asgs ρ l ds Q) := by first | rfl | (rw [RK.wE]; done) | (rw [RK.wS]; done) | (rw [RK.wSs]; done) | (rw [RK.wT]; done) | (rw [wRs]; done) | (rw [RK.wTs]; done) | (rw [RK.wI]; done) | (rw [RK.wE]; rfl) | (rw [RK.wS]; rfl) | (rw [RK.wTs]; rfl) | (simp only [RK.wT]; rfl)
theorem u_gv {d : RK.D} : RK.get ρ (.v d) = d := by first | rfl | (rw [RK.wE]; done) | (rw [RK.wS]; done) | (rw [RK.wSs]; done) | (rw [RK.wT]; done) | (rw [wRs]; done) | (rw [RK.wTs]; done) | (rw [RK.wI]; done) | (rw [RK.wE]; rfl) | (rw [RK.wS]; rfl) | (rw [RK.wTs]; rfl) | (simp only [RK.wT]; rfl)
theorem u_gf {ds : List RK.D} : RK.get ρ (.f ds) = .lst ds := by first | rfl | (rw [RK.wE]; done) | (rw [RK.wS]; done) | (rw [RK.wSs]; done) | (rw [RK.wT]; done) | (rw [wRs]; done) | (rw [RK.wTs]; done) | (rw [RK.wI]; done) | (rw [RK.wE]; rfl) | (rw [RK.wS]; rfl) | (rw [RK.wTs]; rfl) | (simp only [RK.wT]; rfl)
theorem u_gb {i : Nat} : RK.get ρ (.b i) = gSl ρ[i]? := by first | rfl | (rw [RK.wE]; done) | (rw [RK.wS]; done) | (rw [RK.wSs]; done) | (rw [RK.wT]; done) | (rw [wRs]; done) | (rw [RK.wTs]; done) | (rw [RK.wI]; done) | (rw [RK.wE]; rfl) | (rw [RK.wS]; rfl) | (rw [RK.wTs]; rfl) | (simp only [RK.wT]; rfl)
theorem u_gs1 {d : RK.D} : gSl (some (.v d)) = d := by first | rfl | (rw [RK.wE]; done) | (rw [RK.wS]; done) | (rw [RK.wSs]; done) | (rw [RK.wT]; done) | (rw [wRs]; done) | (rw [RK.wTs]; done) | (rw [RK.wI]; done) | (rw [RK.wE]; rfl) | (rw [RK.wS]; rfl) | (rw [RK.wTs]; rfl) | (simp only [RK.wT]; rfl)
theorem u_gs2 {d : List RK.D} : gSl (some (.ow d)) = .lst d := by first | rfl | (rw [RK.wE]; done) | (rw [RK.wS]; done) | (rw [RK.wSs]; done) | (rw [RK.wT]; done) | (rw [wRs]; done) | (rw [RK.wTs]; done) | (rw [RK.wI]; done) | (rw [RK.wE]; rfl) | (rw [RK.wS]; rfl) | (rw [RK.wTs]; rfl) | (simp only [RK.wT]; rfl)
theorem u_gs3 {d : List RK.D} : gSl (some (.io d)) = .lst d := by first | rfl | (rw [RK.wE]; done) | (rw [RK.wS]; done) | (rw [RK.wSs]; done) | (rw [RK.wT]; done) | (rw [wRs]; done) | (rw [RK.wTs]; done) | (rw [RK.wI]; done) | (rw [RK.wE]; rfl) | (rw [RK.wS]; rfl) | (rw [RK.wTs]; rfl) | (simp only [RK.wT]; rfl)
theorem u_body {tg : Tg} {ifs : List Ex} {elt : Ex} {d : RK.D} {k : Option RK.D → En → Prop} : bodyK C tg ifs elt d ρ k = asgT tg (.v d) ρ fun ρ3 => RK.wTs C ifs (fun _ _ => False) ρ3 fun c ρ4 => elK C c elt ρ4 k := by first | rfl | (rw [RK.wE]; done) | (rw [RK.wS]; done) | (rw [RK.wSs]; done) | (rw [RK.wT]; done) | (rw [wRs]; done) | (rw [RK.wTs]; done) | (rw [RK.wI]; done) | (rw [RK.wE]; rfl) | (rw [RK.wS]; rfl) | (rw [RK.wTs]; rfl) | (simp only [RK.wT]; rfl)
theorem u_cd {f : Nat} {rs : List R} (h : C.io f = none) : callD C f rs ρ Q E = keepRs ρ rs fun ds ρ' => finD C f E (fun _ => ρ') ρ' Q ds := by unfold callD; rw [h]
theorem u_cio {f n : Nat} {i : Nat} {rest : List R} (h : C.io f = some n) : callD C f (.b i :: rest) ρ Q E = keepRs ρ rest fun ds ρ' => ioK C f E i ρ'[i]? ρ' Q ds := by
  unfold callD
  rw [h]
  rfl
theorem u_io_o {f i : Nat} {xs ds : List RK.D} : ioK C f E i (some (.ow xs)) ρ Q ds = finD C f E (fun o => ρ.set i (.ow o)) ρ Q (.lst xs :: ds) := rfl
theorem u_io_i {f i : Nat} {xs ds : List RK.D} : ioK C f E i (some (.io xs)) ρ Q ds = finD C f E (fun o => ρ.set i (.io o)) ρ Q (.lst xs :: ds) := rfl
theorem brK_by {k : Bool} {a b : En → Prop} (h1 : k = true → a ρ) (h0 : k = false → b ρ) : brK k a b ρ := by
  cases k
  · exact h0 rfl
  · exact h1 rfl
theorem brE_by {k : Bool} {a b : Ex} (h1 : k = true → RK.wE C a E ρ Q) (h0 : k = false → RK.wE C b E ρ Q) : brE C E k a b ρ Q := by
  cases k
  · exact h0 rfl
  · exact h1 rfl
theorem whl_inv {c : Ex} {a : List Sm} (I : Nat → En → Prop) (m : Nat) (h0 : I m ρ) (h : ∀ m ρ, I m ρ → RK.wT C c E ρ fun k ρ1 => brK k (RK.wSs C E a ⟨fun ρ' => ∃ m', m' < m ∧ I m' ρ', D.rt, D.nx, fun ρ' => ∃ m', m' < m ∧ I m' ρ'⟩) D.nx ρ1) : whlK C E c a D ρ := ⟨I, ⟨m, h0⟩, h⟩
theorem for_inv {t : Tg} {a : List Sm} {items : List RK.D} (I : Nat → En → Prop) (h0 : I 0 ρ) (hs : ∀ i d ρ k, items[i]? = some d → I i ρ → (∀ ρ', I (i + 1) ρ' → k ρ') → asgT t (.v d) ρ fun ρ3 => RK.wSs C E a ⟨k, D.rt, D.nx, k⟩ ρ3) (hn : ∀ ρ, I items.length ρ → D.nx ρ) : forK C E t a D items ρ :=
  forL_inv I h0 hs hn
theorem forO_inv {t : Tg} {a : List Sm} {items : List RK.D} {i : Nat} {ds : List RK.D} (I : Nat → En → Prop) (h0 : I 0 ρ) (hI : ∀ j ρ, I j ρ → ρ[i]? = some (.io ds)) (hs : ∀ j d ρ k, items[j]? = some d → I j ρ → (∀ ρ', I (j + 1) ρ' → k ρ') → asgT t (.v d) ρ fun ρ3 => RK.wSs C (fun x ρ' => E x (ρ'.set i .no)) a ⟨k, rtO D i, fun ρ' => ρ'[i]? = some (.io ds) ∧ D.nx (ρ'.set i (.ow ds)), k⟩ ρ3) (hn : ∀ ρ, I items.length ρ → D.nx (ρ.set i (.ow ds))) : forOK C E t a i ds D items ρ :=
  forL_inv I h0 (fun j d ρ k e h hk => ⟨hI j ρ h, hs j d ρ k e h hk⟩) fun ρ h => ⟨hI _ ρ h, hn ρ h⟩
theorem comp_pure {elt : Ex} {tg : Tg} {ifs : List Ex} {own : List Nat} {items : List RK.D} (f : RK.D → Option RK.D) (hl : items.length ≤ sizeLine) (h : ∀ d ∈ items, ∀ k : Option RK.D → En → Prop, k (f d) ρ → bodyK C tg ifs elt d (wipeE ρ own) fun o ρ' => k o (backE ρ ρ' own)) (q : Q (.f (items.filterMap f)) ρ) : compK C elt tg ifs own ρ items Q :=
  lcL_pure f h (by simpa using hl) (by simpa using q)
end
section
variable {Q : R → Prop} {QB : Bool → Prop} {QD : RK.D → Prop} {QL : List RK.D → Prop} {i j k : Int} {xs ys : List RK.D} {x y z : RK.D} {a b : Bool} {s s' : Str} {ns : List Int}
theorem v_add_i : binD .add (.int i) (.int j) Q = Q (.v (.int (i + j))) := rfl
theorem v_add_s : binD .add (.str s) (.str s') Q = (s.length + s'.length ≤ sizeLine ∧ Q (.v (.str (s ++ s')))) := rfl
theorem v_add_l : binD .add (.lst xs) (.lst ys) Q = (xs.length + ys.length ≤ sizeLine ∧ Q (.f (xs ++ ys))) := rfl
theorem v_add_t : binD .add (.tup xs) (.tup ys) Q = (xs.length + ys.length ≤ sizeLine ∧ Q (.v (.tup (xs ++ ys)))) := rfl
theorem v_sub : binD .sub (.int i) (.int j) Q = Q (.v (.int (i - j))) := rfl
theorem v_mul : binD .mul (.int i) (.int j) Q = (RK.MulOk i j ∧ Q (.v (.int (i * j)))) := rfl
theorem v_mul_l : binD .mul (.lst xs) (.int k) Q = ((-(2 ^ 63) ≤ k ∧ k < 2 ^ 63 ∧ xs.length * k.toNat ≤ sizeLine) ∧ Q (.f (List.replicate k.toNat xs).flatten)) := rfl
theorem v_fdiv : binD .fdiv (.int i) (.int j) Q = (CDivW i j ∧ Q (.v (.int (i / j)))) := rfl
theorem v_fdn : binD .fdn (.int i) (.int j) Q = (CDivX i j ∧ Q (.v (.int (i.fdiv j)))) := rfl
theorem v_mod : binD .mod (.int i) (.int j) Q = (0 < j ∧ Q (.v (.int (i % j)))) := rfl
theorem v_pow : binD .pow (.int i) (.int j) Q = (CPow i j ∧ Q (.v (.int (i ^ j.toNat)))) := rfl
theorem v_lt : cmpD .lt (.int i) (.int j) QB = QB (decide (i < j)) := rfl
theorem v_le : cmpD .le (.int i) (.int j) QB = QB (decide (i ≤ j)) := rfl
theorem v_gt : cmpD .gt (.int i) (.int j) QB = QB (decide (j < i)) := rfl
theorem v_ge : cmpD .ge (.int i) (.int j) QB = QB (decide (j ≤ i)) := rfl
theorem eqD_int : eqD (.int i) (.int j) = decide (i = j) := by
  unfold eqD
  show PyData.eqv (.int i) (.int j) = _
  simp only [PyData.eqv]
  by_cases h : i = j <;> simp [h]
theorem eqD_bl : eqD (.bl a) (.bl b) = decide (a = b) := by
  unfold eqD
  show PyData.eqv (.bool a) (.bool b) = _
  cases a <;> cases b <;> rfl
theorem v_eq_i : cmpD .eq (.int i) (.int j) QB = QB (decide (i = j)) := by
  show (EqOk (.int i) ∧ EqOk (.int j) ∧ QB (eqD (.int i) (.int j))) = _
  have e : ∀ i : Int, EqOk (.int i) := fun i => ⟨rfl, by show 0 ≤ 60; omega⟩
  rw [eqD_int]; simp only [e, true_and]
theorem v_ne_i : cmpD .ne (.int i) (.int j) QB = QB (!decide (i = j)) := by
  show (EqOk (.int i) ∧ EqOk (.int j) ∧ QB (!eqD (.int i) (.int j))) = _
  have e : ∀ i : Int, EqOk (.int i) := fun i => ⟨rfl, by show 0 ≤ 60; omega⟩
  rw [eqD_int]; simp only [e, true_and]
theorem v_eq_b : cmpD .eq (.bl a) (.bl b) QB = QB (decide (a = b)) := by
  show (EqOk (.bl a) ∧ EqOk (.bl b) ∧ QB (eqD (.bl a) (.bl b))) = _
  have e : ∀ i : Bool, EqOk (.bl i) := fun i => ⟨rfl, by show 0 ≤ 60; omega⟩
  rw [eqD_bl]; simp only [e, true_and]
theorem v_ne_b : cmpD .ne (.bl a) (.bl b) QB = QB (!decide (a = b)) := by
  show (EqOk (.bl a) ∧ EqOk (.bl b) ∧ QB (!eqD (.bl a) (.bl b))) = _
  have e : ∀ i : Bool, EqOk (.bl i) := fun i => ⟨rfl, by show 0 ≤ 60; omega⟩
  rw [eqD_bl]; simp only [e, true_and]
theorem v_eq_l : cmpD .eq (.lst xs) y QB = (EqOk (.lst xs) ∧ EqOk y ∧ QB (eqD (.lst xs) y)) := rfl
theorem v_eq_t : cmpD .eq (.tup xs) y QB = (EqOk (.tup xs) ∧ EqOk y ∧ QB (eqD (.tup xs) y)) := rfl
theorem v_ne_l : cmpD .ne (.lst xs) y QB = (EqOk (.lst xs) ∧ EqOk y ∧ QB (!eqD (.lst xs) y)) := rfl
theorem v_ne_t : cmpD .ne (.tup xs) y QB = (EqOk (.tup xs) ∧ EqOk y ∧ QB (!eqD (.tup xs) y)) := rfl
theorem v_eq_s : cmpD .eq (.str s) y QB = (EqOk (.str s) ∧ EqOk y ∧ QB (eqD (.str s) y)) := rfl
theorem v_ne_s : cmpD .ne (.str s) y QB = (EqOk (.str s) ∧ EqOk y ∧ QB (!eqD (.str s) y)) := rfl
theorem v_is_b : cmpD .is_ (.bl a) (.bl b) QB = QB (decide (a = b)) := rfl
theorem v_is_nn : cmpD .is_ .non .non QB = QB true := rfl
theorem v_is_bn : cmpD .is_ (.bl a) .non QB = QB false := rfl
theorem v_is_in : cmpD .is_ (.int i) .non QB = QB false := rfl
theorem v_is_sn : cmpD .is_ (.str s) .non QB = QB false := rfl
theorem v_is_tn : cmpD .is_ (.tup xs) .non QB = QB false := rfl
theorem v_is_ln : cmpD .is_ (.lst xs) .non QB = QB false := rfl
theorem v_isn_b : cmpD .isnot (.bl a) (.bl b) QB = QB (!decide (a = b)) := rfl
theorem v_isn_nn : cmpD .isnot .non .non QB = QB false := rfl
theorem v_isn_bn : cmpD .isnot (.bl a) .non QB = QB true := rfl
theorem v_isn_in : cmpD .isnot (.int i) .non QB = QB true := rfl
theorem v_isn_sn : cmpD .isnot (.str s) .non QB = QB true := rfl
theorem v_isn_tn : cmpD .isnot (.tup xs) .non QB = QB true := rfl
theorem v_isn_ln : cmpD .isnot (.lst xs) .non QB = QB true := rfl
theorem v_in_l : cmpD .in_ x (.lst ys) QB = (EqOk x ∧ EqOk (.lst ys) ∧ QB (ys.any fun y => eqD y x)) := rfl
theorem v_nin_l : cmpD .notin x (.lst ys) QB = (EqOk x ∧ EqOk (.lst ys) ∧ QB (!ys.any fun y => eqD y x)) := rfl
theorem v_in_t : cmpD .in_ x (.tup ys) QB = (EqOk x ∧ EqOk (.tup ys) ∧ QB (ys.any fun y => eqD y x)) := rfl
theorem v_nin_t : cmpD .notin x (.tup ys) QB = (EqOk x ∧ EqOk (.tup ys) ∧ QB (!ys.any fun y => eqD y x)) := rfl
theorem v_len_l : biD .len [.lst xs] Q = Q (.v (.int xs.length)) := rfl
theorem v_len_t : biD .len [.tup xs] Q = Q (.v (.int xs.length)) := rfl
theorem v_len_s : biD .len [.str s] Q = (s.length ≤ sizeLine ∧ Q (.v (.int s.length))) := rfl
theorem v_abs : biD .abs [.int i] Q = Q (.v (.int (if i < 0 then -i else i))) := rfl
theorem v_int_i : biD .int [.int i] Q = Q (.v (.int i)) := rfl
theorem v_int_b : biD .int [.bl a] Q = Q (.v (.int (if a then 1 else 0))) := rfl
theorem v_str_i : biD .str [.int i] Q = (i.natAbs.log2 < 1920 ∧ Q (.v (.str (toString i)))) := rfl
theorem v_tup_l : biD .tuple [.lst xs] Q = Q (.v (.tup xs)) := rfl
theorem v_tup_t : biD .tuple [.tup xs] Q = Q (.v (.tup xs)) := rfl
theorem v_lst_l : biD .list [.lst xs] Q = Q (.f xs) := rfl
theorem v_lst_t : biD .list [.tup xs] Q = Q (.f xs) := rfl
theorem v_lst_s : biD .list [.sc ns] Q = Q (.f (ns.map D.int)) := rfl
theorem v_sum : biD .sum [.lst xs] Q = (∃ ns, intsD xs = some ns ∧ Q (.v (.int ns.sum))) := rfl
theorem v_sorted : biD .sorted [.lst xs] Q = (∃ ns, intsD xs = some ns ∧ ∀ ns' : List Int, ns'.Perm ns → ns'.Pairwise (· ≤ ·) → Q (.f (ns'.map D.int))) := rfl
theorem v_sumT : biD .sum [.tup xs] Q = (∃ ns, intsD xs = some ns ∧ Q (.v (.int ns.sum))) := rfl
theorem v_sortedT : biD .sorted [.tup xs] Q = (∃ ns, intsD xs = some ns ∧ ∀ ns' : List Int, ns'.Perm ns → ns'.Pairwise (· ≤ ·) → Q (.f (ns'.map D.int))) := rfl
theorem v_sortT : biD .sortT [.lst xs] Q = ((∀ d ∈ xs, ∃ ns, ns ≠ [] ∧ d = tupI ns) ∧ ∀ ys : List RK.D, ys.Perm xs → ys.Pairwise leT → Q (.f ys)) := rfl
theorem v_min2 : biD .min [.int i, .int j] Q = Q (.v (.int (if j < i then j else i))) := rfl
theorem v_max2 : biD .max [.int i, .int j] Q = Q (.v (.int (if j > i then j else i))) := rfl
theorem v_min : biD .min [.lst xs] Q = (∃ ns, intsD xs = some ns ∧ 0 < ns.length ∧ ∀ m, m ∈ ns → (∀ y, y ∈ ns → m ≤ y) → Q (.v (.int m))) := rfl
theorem v_max : biD .max [.lst xs] Q = (∃ ns, intsD xs = some ns ∧ 0 < ns.length ∧ ∀ m, m ∈ ns → (∀ y, y ∈ ns → y ≤ m) → Q (.v (.int m))) := rfl
theorem v_ix0 : idxD (.lst (x :: xs)) (.int 0) QD = QD x := by simp [idxD, atI, ixN]
theorem v_ix1 : idxD (.lst (x :: y :: xs)) (.int 1) QD = QD y := by
  have e : atI (x :: y :: xs) 1 = some y := by
    unfold atI ixN
    rw [if_pos (by decide), if_pos (by simp only [List.length_cons]; omega)]; rfl
  show (∃ d, atI (x :: y :: xs) 1 = some d ∧ QD d) = _
  rw [e]; simp
theorem v_ix2 : idxD (.lst (x :: y :: z :: xs)) (.int 2) QD = QD z := by
  have e : atI (x :: y :: z :: xs) 2 = some z := by
    unfold atI ixN
    rw [if_pos (by decide), if_pos (by simp only [List.length_cons]; omega)]; rfl
  show (∃ d, atI (x :: y :: z :: xs) 2 = some d ∧ QD d) = _
  rw [e]; simp
theorem v_tx0 : idxD (.tup (x :: xs)) (.int 0) QD = QD x := v_ix0
theorem v_tx1 : idxD (.tup (x :: y :: xs)) (.int 1) QD = QD y := v_ix1
theorem v_tx2 : idxD (.tup (x :: y :: z :: xs)) (.int 2) QD = QD z := v_ix2
theorem v_rng1 : rngD [.int j] QL = ((-(2 ^ 62) ≤ j ∧ j < 2 ^ 62) ∧ QL ((List.range j.toNat).map fun (k : Nat) => D.int (k : Int))) := rfl
theorem v_rng2 : rngD [.int i, .int j] QL = ((-(2 ^ 62) ≤ i ∧ i < 2 ^ 62 ∧ -(2 ^ 62) ≤ j ∧ j < 2 ^ 62) ∧ QL ((List.range (j - i).toNat).map fun (k : Nat) => D.int (i + (k : Int)))) := rfl
theorem v_rng3 {c : Int} : rngD [.int i, .int j, .int c] QL = (∃ n, RgC i j c n ∧ QL ((List.range n).map fun (k : Nat) => D.int (i + (k : Nat) * c))) := rfl
theorem v_all : biD .all [.lst xs] Q = (∃ bs, bolsD xs = some bs ∧ Q (.v (.bl (bs.all id)))) := rfl
theorem v_any : biD .any [.lst xs] Q = (∃ bs, bolsD xs = some bs ∧ Q (.v (.bl (bs.any id)))) := rfl
theorem v_str_s : biD .str [.str s] Q = Q (.v (.str s)) := rfl
theorem v_slc_l {lo hi : Option Int} : slcD (.lst xs) lo hi Q = Q (.f (cutD xs lo hi)) := rfl
theorem v_slc_t {lo hi : Option Int} : slcD (.tup xs) lo hi Q = Q (.v (.tup (cutD xs lo hi))) := rfl
theorem v_opt0 {QO : Option Int → Prop} : optK (optI []) QO = QO none := rfl
theorem v_opt1 {QO : Option Int → Prop} : optK (optI [.int i]) QO = QO (some i) := rfl
theorem v_zip_l : zipD (.lst xs) (.lst ys) QL = QL (List.zipWith (fun a b => .tup [a, b]) xs ys) := rfl
theorem v_zip_t : zipD (.tup xs) (.tup ys) QL = QL (List.zipWith (fun a b => .tup [a, b]) xs ys) := rfl
theorem v_enum_l : enumD (.lst xs) QL = QL (enumL 0 xs) := rfl
theorem v_enum_t : enumD (.tup xs) QL = QL (enumL 0 xs) := rfl
theorem v_mul_t : binD .mul (.tup xs) (.int k) Q = ((-(2 ^ 63) ≤ k ∧ k < 2 ^ 63 ∧ xs.length * k.toNat ≤ 1000000) ∧ Q (.v (.tup (List.replicate k.toNat xs).flatten))) := rfl
theorem v_rev : revD (.lst xs) Q = Q (.f xs.reverse) := rfl
theorem v_rgt1 : rgvD true [.int j] Q = (RgOk 0 j ∧ Q (.v (.tup ((List.range j.toNat).map fun (k : Nat) => D.int (k : Int))))) := rfl
theorem v_rgl1 : rgvD false [.int j] Q = (RgOk 0 j ∧ Q (.f ((List.range j.toNat).map fun (k : Nat) => D.int (k : Int)))) := rfl
theorem v_rgt2 : rgvD true [.int i, .int j] Q = (RgOk i j ∧ Q (.v (.tup ((List.range (j - i).toNat).map fun (k : Nat) => D.int (i + (k : Int)))))) := rfl
theorem v_rgl2 : rgvD false [.int i, .int j] Q = (RgOk i j ∧ Q (.f ((List.range (j - i).toNat).map fun (k : Nat) => D.int (i + (k : Int))))) := rfl
theorem v_items_l : itemsD (.lst xs) QL = QL xs := rfl
theorem v_items_t : itemsD (.tup xs) QL = QL xs := rfl
theorem v_tru_n : truD .non = some false := rfl
theorem v_tru_b : truD (.bl a) = some a := rfl
theorem v_tru_i : truD (.int i) = some (i != 0) := rfl
theorem v_tru_t : truD (.tup xs) = some (!xs.isEmpty) := rfl
theorem v_tru_l : truD (.lst xs) = some (!xs.isEmpty) := rfl
theorem idx_l {d : RK.D} (h : atI xs k = some d) (q : QD d) : idxD (.lst xs) (.int k) QD := ⟨d, h, q⟩
theorem idx_t {d : RK.D} (h : atI xs k = some d) (q : QD d) : idxD (.tup xs) (.int k) QD := ⟨d, h, q⟩
theorem atI_nat {n : Nat} {d : RK.D} (h : xs[n]? = some d) : atI xs (n : Int) = some d := by
  have := (List.getElem?_eq_some_iff.mp h).1
  unfold atI ixN
  rw [if_pos (by omega), if_pos (by omega)]
  simpa using h
theorem atI_last {d : RK.D} : atI (xs ++ [d]) (-1) = some d := by
  unfold atI ixN
  rw [if_neg (by decide), if_pos (by simp only [List.length_append, List.length_cons, List.length_nil]; omega)]
  show (xs ++ [d])[(-1 + (((xs ++ [d]).length : Nat) : Int)).toNat]? = _
  have : (-1 + (((xs ++ [d]).length : Nat) : Int)).toNat = xs.length := by simp only [List.length_append, List.length_cons, List.length_nil]; omega
  rw [this]; simp
theorem ixN_nat {n m : Nat} (h : m < n) : ixN n (m : Int) = some m := by
  unfold ixN
  rw [if_pos (by omega), if_pos (by omega)]; simp
end
theorem v_isi_non_int : isiD .non "int" = some false := by simp [isiD, tyD]
theorem v_isi_non_bool : isiD .non "bool" = some false := by simp [isiD, tyD]
theorem v_isi_non_tuple : isiD .non "tuple" = some false := by simp [isiD, tyD]
theorem v_isi_non_list : isiD .non "list" = some false := by simp [isiD, tyD]
theorem v_isi_non_str : isiD .non "str" = some false := by simp [isiD, tyD]
theorem v_isi_bl_int : isiD (.bl a) "int" = some true := by simp [isiD, tyD]
theorem v_isi_bl_bool : isiD (.bl a) "bool" = some true := by simp [isiD, tyD]
theorem v_isi_bl_tuple : isiD (.bl a) "tuple" = some false := by simp [isiD, tyD]
theorem v_isi_bl_list : isiD (.bl a) "list" = some false := by simp [isiD, tyD]
theorem v_isi_bl_str : isiD (.bl a) "str" = some false := by simp [isiD, tyD]
theorem v_isi_int_int : isiD (.int i) "int" = some true := by simp [isiD, tyD]
theorem v_isi_int_bool : isiD (.int i) "bool" = some false := by simp [isiD, tyD]
theorem v_isi_int_tuple : isiD (.int i) "tuple" = some false := by simp [isiD, tyD]
theorem v_isi_int_list : isiD (.int i) "list" = some false := by simp [isiD, tyD]
theorem v_isi_int_str : isiD (.int i) "str" = some false := by simp [isiD, tyD]
theorem v_isi_str_int : isiD (.str s) "int" = some false := by simp [isiD, tyD]
theorem v_isi_str_bool : isiD (.str s) "bool" = some false := by simp [isiD, tyD]
theorem v_isi_str_tuple : isiD (.str s) "tuple" = some false := by simp [isiD, tyD]
theorem v_isi_str_list : isiD (.str s) "list" = some false := by simp [isiD, tyD]
theorem v_isi_str_str : isiD (.str s) "str" = some true := by simp [isiD, tyD]
theorem v_isi_tup_int : isiD (.tup xs) "int" = some false := by simp [isiD, tyD]
theorem v_isi_tup_bool : isiD (.tup xs) "bool" = some false := by simp [isiD, tyD]
theorem v_isi_tup_tuple : isiD (.tup xs) "tuple" = some true := by simp [isiD, tyD]
theorem v_isi_tup_list : isiD (.tup xs) "list" = some false := by simp [isiD, tyD]
theorem v_isi_tup_str : isiD (.tup xs) "str" = some false := by simp [isiD, tyD]
theorem v_isi_lst_int : isiD (.lst xs) "int" = some false := by simp [isiD, tyD]
theorem v_isi_lst_bool : isiD (.lst xs) "bool" = some false := by simp [isiD, tyD]
theorem v_isi_lst_tuple : isiD (.lst xs) "tuple" = some false := by simp [isiD, tyD]
theorem v_isi_lst_list : isiD (.lst xs) "list" = some true := by simp [isiD, tyD]
theorem v_isi_lst_str : isiD (.lst xs) "str" = some false := by simp [isiD, tyD]
theorem v_nio0 {s : Sl} {ρ : En} : notIo (s :: ρ) 0 = Sl.free s := by cases s <;> rfl
theorem v_nio1 {s : Sl} {ρ : En} {n : Nat} : notIo (s :: ρ) (n + 1) = notIo ρ n := rfl
theorem v_fr_no : Sl.free .no = true := rfl
theorem v_fr_v {d : RK.D} : Sl.free (.v d) = true := rfl
theorem v_fr_ow {d : List RK.D} : Sl.free (.ow d) = true := rfl
theorem v_sx0 {P : Nat → Prop} {xs : List RK.D} {x : RK.D} : (∃ m, ixN (x :: xs).length 0 = some m ∧ P m) = P 0 := by
  have e : ixN (x :: xs).length 0 = some 0 := by
    unfold ixN
    rw [if_pos (by decide), if_pos (by simp only [List.length_cons]; omega)]; rfl
  rw [e]; simp
theorem v_sx1 {P : Nat → Prop} {xs : List RK.D} {x y : RK.D} : (∃ m, ixN (x :: y :: xs).length 1 = some m ∧ P m) = P 1 := by
  have e : ixN (x :: y :: xs).length 1 = some 1 := by
    unfold ixN
    rw [if_pos (by decide), if_pos (by simp only [List.length_cons]; omega)]; rfl
  rw [e]; simp
section
variable {ρ : En} {Q : R → En → Prop} {i : Nat} {d : RK.D}
theorem v_app : methD .append (.b i) [d] ρ Q = apK ρ[i]? d i ρ Q := by
  first
    | rfl
    | (unfold methD apK
       rw [if_neg (by decide)]
       try dsimp only
       generalize ρ[i]? = s
       rcases s with _ | s
       · rfl
       · cases s <;> rfl)
theorem v_apK {xs : List RK.D} : apK (some (.ow xs)) d i ρ Q = (xs.length < sizeLine ∧ Q (.v .non) (ρ.set i (.ow (xs ++ [d])))) := rfl
def rmK (s : Option Sl) (k : Int) (i : Nat) (ρ : En) (Q : R → En → Prop) : Pr Q := match s with
  | some (.ow xs) => ∃ ns j, intsD xs = some ns ∧ ns[j]? = some k ∧ (∀ m : Nat, m < j → ns[m]? ≠ some k) ∧ Q (.v .non) (ρ.set i (.ow ((ns.eraseIdx j).map D.int)))
  | _ => False
def paK (s : Option Sl) (k : Int) (i : Nat) (ρ : En) (Q : R → En → Prop) : Pr Q := match s with
  | some (.ow xs) => ∃ n d, (-(2 ^ 63) ≤ k ∧ k < 2 ^ 63 ∧ seqIndex? k xs.length = some n) ∧ xs[n]? = some d ∧ Q (.v d) (ρ.set i (.ow (xs.eraseIdx n)))
  | _ => False
theorem v_rem {k : Int} : methD .remove (.b i) [.int k] ρ Q = rmK ρ[i]? k i ρ Q := by
  first
    | rfl
    | (unfold methD rmK
       rw [if_neg (by decide)]
       done)
    | (unfold methD rmK
       rw [if_neg (by decide)]
       dsimp only
       generalize ρ[i]? = s
       rcases s with _ | s
       · rfl
       · cases s <;> rfl)
theorem v_rmK {xs : List RK.D} {k : Int} : rmK (some (.ow xs)) k i ρ Q = ∃ ns j, intsD xs = some ns ∧ ns[j]? = some k ∧ (∀ m : Nat, m < j → ns[m]? ≠ some k) ∧ Q (.v .non) (ρ.set i (.ow ((ns.eraseIdx j).map D.int))) := rfl
theorem v_pat {k : Int} : methD .popat (.b i) [.int k] ρ Q = paK ρ[i]? k i ρ Q := by
  first
    | rfl
    | (unfold methD paK
       rw [if_neg (by decide)]
       done)
    | (unfold methD paK
       rw [if_neg (by decide)]
       dsimp only
       generalize ρ[i]? = s
       rcases s with _ | s
       · rfl
       · cases s <;> rfl)
theorem v_paK {xs : List RK.D} {k : Int} : paK (some (.ow xs)) k i ρ Q = ∃ n d, (-(2 ^ 63) ≤ k ∧ k < 2 ^ 63 ∧ seqIndex? k xs.length = some n) ∧ xs[n]? = some d ∧ Q (.v d) (ρ.set i (.ow (xs.eraseIdx n))) := rfl
theorem v_cnt {r : R} {ds : List RK.D} : methD .count r ds ρ Q = countD (RK.get ρ r) ds ρ Q := by
  unfold methD
  rw [if_pos rfl]
theorem v_cntD {xs : List RK.D} {k : Int} : countD (.lst xs) [.int k] ρ Q = ∃ ns, intsD xs = some ns ∧ Q (.v (.int (ns.count k : Nat))) ρ := rfl
theorem v_pop : methD .pop (.b i) [] ρ Q = poK ρ[i]? i ρ Q := by
  first
    | rfl
    | (unfold methD poK
       rw [if_neg (by decide)]
       try dsimp only
       generalize ρ[i]? = s
       rcases s with _ | s
       · rfl
       · cases s <;> rfl)
theorem v_poK {xs : List RK.D} : poK (some (.ow xs)) i ρ Q = ∃ d, xs[xs.length - 1]? = some d ∧ Q (.v d) (ρ.set i (.ow xs.dropLast)) := rfl
end
end RK
namespace RK
open PySem L2
local macro_rules | `(tactic| array_get_dec) => `(tactic| try simp -dsimp only [↓RK.u_nil, ↓RK.u_cons, ↓RK.u_asg, ↓RK.u_par, ↓RK.u_aug, ↓RK.u_agK_i, ↓RK.u_agK_o, ↓RK.u_agI_a, ↓RK.u_agI_s, ↓RK.u_agL, ↓RK.u_sti, ↓RK.u_stiK_ow, ↓RK.u_stK_o, ↓RK.u_stK_i, ↓RK.u_ex, ↓RK.u_ifs, ↓RK.u_whil, ↓RK.u_for, ↓RK.u_forO, ↓RK.u_foK_o, ↓RK.u_itO0, ↓RK.u_itO1, ↓RK.u_ret, ↓RK.u_brk, ↓RK.u_cnt, ↓RK.u_pass, ↓RK.u_rai, ↓RK.u_fg, ↓RK.u_br1, ↓RK.u_br0, ↓RK.u_brE1, ↓RK.u_brE0, ↓RK.u_brT1, ↓RK.u_brT0, ↓RK.u_brF1, ↓RK.u_brF0, ↓RK.u_an1, ↓RK.u_an0, ↓RK.u_or1, ↓RK.u_or0, ↓RK.u_c21, ↓RK.u_c20, ↓RK.u_ts1, ↓RK.u_ts0, ↓RK.u_el1, ↓RK.u_el0, ↓RK.u_v, ↓RK.u_vK_v, ↓RK.u_vK_o, ↓RK.u_vK_i, ↓RK.u_c, ↓RK.u_g, ↓RK.u_gK, ↓RK.u_bin, ↓RK.u_neg, ↓RK.u_ngK, ↓RK.u_cmp, ↓RK.u_cmp2, ↓RK.u_and, ↓RK.u_or, ↓RK.u_not, ↓RK.u_ntK, ↓RK.u_ite, ↓RK.u_tup, ↓RK.u_lst, ↓RK.u_call, ↓RK.u_bi, ↓RK.u_isi, ↓RK.u_isK, ↓RK.u_idx, ↓RK.u_comp, ↓RK.u_slc, ↓RK.u_t_slc, ↓RK.u_izip, ↓RK.u_ienum, ↓RK.u_rev, ↓RK.u_rgv, ↓RK.u_meth, ↓RK.u_rs0, ↓RK.u_rs1, ↓RK.u_tAnd, ↓RK.u_tOr, ↓RK.u_tNot, ↓RK.u_tk, ↓RK.u_t_v, ↓RK.u_t_c, ↓RK.u_t_g, ↓RK.u_t_bin, ↓RK.u_t_cmp, ↓RK.u_t_cmp2, ↓RK.u_t_call, ↓RK.u_t_bi, ↓RK.u_t_isi, ↓RK.u_t_idx, ↓RK.u_t_meth, ↓RK.u_t_comp, ↓RK.u_ts_nil, ↓RK.u_ts_cons, ↓RK.u_ie, ↓RK.u_irng, ↓RK.u_kv, ↓RK.u_kf, ↓RK.u_kb, ↓RK.u_kbK_v, ↓RK.u_kbK_o, ↓RK.u_ks0, ↓RK.u_ks1, ↓RK.u_kBv, ↓RK.u_kBf, ↓RK.u_kBb, ↓RK.u_kBs0, ↓RK.u_kBs1, ↓RK.u_sR0, ↓RK.u_sR1, ↓RK.u_as0, ↓RK.u_as1, ↓RK.u_slv, ↓RK.u_slf, ↓RK.u_tv, ↓RK.u_tf, ↓RK.u_tb, ↓RK.u_tt, ↓RK.u_tl, ↓RK.u_tfl, ↓RK.u_gv, ↓RK.u_gf, ↓RK.u_gb, ↓RK.u_gs1, ↓RK.u_gs2, ↓RK.u_gs3, ↓RK.u_body, ↓RK.u_io_o, ↓RK.u_io_i, ↓RK.v_add_i, ↓RK.v_add_s, ↓RK.v_add_l, ↓RK.v_add_t, ↓RK.v_sub, ↓RK.v_mul, ↓RK.v_mul_l, ↓RK.v_fdiv, ↓RK.v_fdn, ↓RK.v_mod, ↓RK.v_pow, ↓RK.v_lt, ↓RK.v_le, ↓RK.v_gt, ↓RK.v_ge, ↓RK.v_eq_i, ↓RK.v_ne_i, ↓RK.v_eq_b, ↓RK.v_ne_b, ↓RK.v_eq_l, ↓RK.v_eq_t, ↓RK.v_ne_l, ↓RK.v_ne_t, ↓RK.v_eq_s, ↓RK.v_ne_s, ↓RK.v_is_b, ↓RK.v_is_nn, ↓RK.v_is_bn, ↓RK.v_is_in, ↓RK.v_is_sn, ↓RK.v_is_tn, ↓RK.v_is_ln, ↓RK.v_isn_b, ↓RK.v_isn_nn, ↓RK.v_isn_bn, ↓RK.v_isn_in, ↓RK.v_isn_sn, ↓RK.v_isn_tn, ↓RK.v_isn_ln, ↓RK.v_in_l, ↓RK.v_nin_l, ↓RK.v_in_t, ↓RK.v_nin_t, ↓RK.v_len_l, ↓RK.v_len_t, ↓RK.v_len_s, ↓RK.v_abs, ↓RK.v_int_i, ↓RK.v_int_b, ↓RK.v_str_i, ↓RK.v_tup_l, ↓RK.v_tup_t, ↓RK.v_lst_l, ↓RK.v_lst_t, ↓RK.v_lst_s, ↓RK.v_sum, ↓RK.v_sorted, ↓RK.v_sumT, ↓RK.v_sortedT, ↓RK.v_sortT, ↓RK.v_min2, ↓RK.v_max2, ↓RK.v_min, ↓RK.v_max, ↓RK.v_ix0, ↓RK.v_ix1, ↓RK.v_ix2, ↓RK.v_tx0, ↓RK.v_tx1, ↓RK.v_tx2, ↓RK.v_rng1, ↓RK.v_rng2, ↓RK.v_rng3, ↓RK.v_all, ↓RK.v_any, ↓RK.v_str_s, ↓RK.v_slc_l, ↓RK.v_slc_t, ↓RK.v_opt0, ↓RK.v_opt1, ↓RK.v_zip_l, ↓RK.v_zip_t, ↓RK.v_enum_l, ↓RK.v_enum_t, ↓RK.v_mul_t, ↓RK.v_rev, ↓RK.v_rgt1, ↓RK.v_rgl1, ↓RK.v_rgt2, ↓RK.v_rgl2, ↓RK.v_items_l, ↓RK.v_items_t, ↓RK.v_tru_n, ↓RK.v_tru_b, ↓RK.v_tru_i, ↓RK.v_tru_t, ↓RK.v_tru_l, ↓RK.v_isi_non_int, ↓RK.v_isi_non_bool, ↓RK.v_isi_non_tuple, ↓RK.v_isi_non_list, ↓RK.v_isi_non_str, ↓RK.v_isi_bl_int, ↓RK.v_isi_bl_bool, ↓RK.v_isi_bl_tuple, ↓RK.v_isi_bl_list, ↓RK.v_isi_bl_str, ↓RK.v_isi_int_int, ↓RK.v_isi_int_bool, ↓RK.v_isi_int_tuple, ↓RK.v_isi_int_list, ↓RK.v_isi_int_str, ↓RK.v_isi_str_int, ↓RK.v_isi_str_bool, ↓RK.v_isi_str_tuple, ↓RK.v_isi_str_list, ↓RK.v_isi_str_str, ↓RK.v_isi_tup_int, ↓RK.v_isi_tup_bool, ↓RK.v_isi_tup_tuple, ↓RK.v_isi_tup_list, ↓RK.v_isi_tup_str, ↓RK.v_isi_lst_int, ↓RK.v_isi_lst_bool, ↓RK.v_isi_lst_tuple, ↓RK.v_isi_lst_list, ↓RK.v_isi_lst_str, ↓RK.v_nio0, ↓RK.v_nio1, ↓RK.v_fr_no, ↓RK.v_fr_v, ↓RK.v_fr_ow, ↓RK.v_sx0, ↓RK.v_sx1, ↓RK.v_app, ↓RK.v_apK, ↓RK.v_rem, ↓RK.v_rmK, ↓RK.v_pat, ↓RK.v_paK, ↓RK.v_cnt, ↓RK.v_cntD, ↓RK.v_pop, ↓RK.v_poK, RK.isL, RK.Lt.d, List.getElem?_cons_zero, List.getElem?_cons_succ, List.set_cons_zero, List.set_cons_succ, List.map_cons, List.map_nil, RK.fgE, RK.fg1, RK.wipeE, RK.backE, RK.isOwn, List.forall_mem_cons, List.not_mem_nil, false_imp_iff, implies_true, List.length_cons, List.length_nil, Bool.not_true, Bool.not_false, and_true, true_and, ↓reduceIte, RK.intsD, RK.flatD, decide_true, decide_false, Bool.false_eq_true, reduceCtorEq])
/-! ## the laws' common defs -/
section
variable {C : Ct} {E : Xn → En → Prop} {kf : List D → En} {ρ' : En} {Q : R → En → Prop} {ds : List D} {f : Nat}
theorem use_F {α : Type} {f' : α → List D} {P : α → Prop} {g : α → D} (h : C.sp f = spF f' P g) (hf : C.fr f = false) (x : α) (e : ds = f' x) (p : P x) (q : Q (.v (g x)) (kf [])) : finD C f E kf ρ' Q ds := by
  unfold finD
  rw [h, hf]
  exact ⟨x, e, p, q⟩
theorem use_Ff {α : Type} {f' : α → List D} {P : α → Prop} {g : α → List D} (h : C.sp f = spF f' P fun x => .lst (g x)) (hf : C.fr f = true) (x : α) (e : ds = f' x) (p : P x) (q : Q (.f (g x)) (kf [])) : finD C f E kf ρ' Q ds := by
  unfold finD
  rw [h, hf]
  exact ⟨x, e, p, q⟩
end
theorem sz {n : Nat} (h : n ≤ 16777216) : n ≤ sizeLine := h
theorem szl {n : Nat} (h : n < 16777216) : n < sizeLine := h
theorem cdiv {i j : Int} (h0 : 0 < j) (h : j < 2 ^ 64) : CDivW i j := by
  refine ⟨h0, ?_⟩
  have h1 : j.natAbs < 2 ^ 64 := by omega
  have h2 : j.natAbs ≠ 0 := by omega
  have := (Nat.log2_lt h2).mpr h1
  omega
theorem mulR {i j : Int} (h0 : 0 ≤ j) (h : j < 2 ^ 64) : RK.MulOk i j := .inl (.inr ⟨by omega, h⟩)
theorem mulL {i j : Int} (h0 : 0 ≤ i) (h : i < 2 ^ 64) : RK.MulOk i j := .inl (.inl ⟨by omega, h⟩)
/-- what the laws' draws lie in -/
def CupOk (c : List D) : Prop := ∃ a b : Int, c = [.int a, .int b] ∧ 0 ≤ a ∧ 0 ≤ b ∧ b < 2 ^ 32
def spCup : SpT := fun ds Q _ => ∃ ns : List Int, ds = [.sc ns] ∧ ns.length ≤ 63 ∧ ∀ c, CupOk c → Q (.lst c) []
def spRoll : SpT := fun ds Q _ => ∃ (c : List D) (n : Int), ds = [.lst c, .int n] ∧ CupOk c ∧ 0 < n ∧ n < 2 ^ 62 ∧ ∀ r c', 0 ≤ r → r < n → CupOk c' → Q (.int r) c'
theorem spCup_mono : Mono spCup := by
  rintro ds Q Q' E E' hQ hE ⟨ns, h1, hl, h2⟩
  exact ⟨ns, h1, hl, fun c hc => hQ _ _ (h2 c hc)⟩
theorem spRoll_mono : Mono spRoll := by
  rintro ds Q Q' E E' hQ hE ⟨c, n, h1, h2, h3, h4, h5⟩
  exact ⟨c, n, h1, h2, h3, h4, fun r c' a b d => hQ _ _ (h5 r c' a b d)⟩
theorem use_roll {C : Ct} {E : Xn → En → Prop} {kf : List D → En} {ρ' : En} {Q : R → En → Prop} {f : Nat} (h : C.sp f = spRoll) (hf : C.fr f = false) {c : List D} {n : Int} (hc : CupOk c) (h0 : 0 < n) (h1 : n < 2 ^ 62) (q : ∀ r c', 0 ≤ r → r < n → CupOk c' → Q (.v (.int r)) (kf c')) : finD C f E kf ρ' Q [.lst c, .int n] := by
  unfold finD
  rw [h, hf]
  exact ⟨c, n, rfl, hc, h0, h1, q⟩
theorem use_cup {C : Ct} {E : Xn → En → Prop} {kf : List D → En} {ρ' : En} {Q : R → En → Prop} {f : Nat} (h : C.sp f = spCup) (hf : C.fr f = true) {ns : List Int} (hl : ns.length ≤ 63) (q : ∀ c, CupOk c → Q (.f c) (kf [])) : finD C f E kf ρ' Q [.sc ns] := by
  unfold finD
  rw [h, hf]
  exact ⟨ns, rfl, hl, q⟩
def irCup (c1 c2 c3 c4 c5 : Int) : List Sm :=
  [(.asg (.n 1) (.bi .abs [(.idx (.bin .add (.bi .list [(.v 0)]) (.lst [(.c (.int 0))])) (.c (.int 0)))])),
   (.ret (.lst [(.ite (.cmp .ge (.v 1) (.bin .pow (.c (.int 10)) (.c (.int 18)))) (.bin .fdiv (.v 1) (.c (.int c1))) (.c (.int 0))), (.bin .add (.bin .mod (.bi .int [(.bin .add (.bin .mul (.v 1) (.c (.int c2))) (.c (.int c3)))]) (.c (.int c4))) (.c (.int c5)))]))]
def irRoll (c1 c2 c3 c4 c5 c6 : Int) : List Sm :=
  [(.ifs (.cmp .gt (.idx (.v 0) (.c (.int 0))) (.c (.int 0)))
     [(.asg (.n 3) (.bin .mod (.bi .int [(.idx (.v 0) (.c (.int 0)))]) (.v 1))),
      (.sti (.v 0) (.c (.int 0)) (.bin .fdiv (.idx (.v 0) (.c (.int 0))) (.v 1))),
      (.ret (.v 3))]
     []),
   (.sti (.v 0) (.c (.int 1)) (.bin .mod (.bi .int [(.bin .add (.bin .mul (.idx (.v 0) (.c (.int 1))) (.c (.int c1))) (.c (.int c2)))]) (.c (.int c3)))),
   (.asg (.n 2) (.bin .mod (.bi .int [(.bin .mul (.idx (.v 0) (.c (.int 1))) (.bin .add (.idx (.v 0) (.c (.int 1))) (.c (.int c4))))]) (.c (.int c5)))),
   (.ret (.bin .mod (.bi .int [(.bin .fdiv (.v 2) (.c (.int c6)))]) (.v 1)))]
section
variable {C : Ct} {E : Xn → En → Prop}
theorem wp_cup {c1 c2 c3 c4 c5 : Int} (h1 : 0 < c1 ∧ c1 < 2 ^ 32) (h2 : 0 ≤ c2 ∧ c2 < 2 ^ 32) (h4 : 0 < c4 ∧ c4 < 2 ^ 31) (h5 : 0 ≤ c5 ∧ c5 < 2 ^ 31) (ds : List D) (Qd : D → List D → Prop) (Ed : Xn → Prop) (h : spCup ds Qd Ed) :
    ds.length = 1 ∧ RK.wSs C (fun x _ => Ed x) (irCup c1 c2 c3 c4 c5) (deOf false true Qd) (startE 2 false ds) := by
  obtain ⟨ns, rfl, hl, h⟩ := h
  refine ⟨rfl, ?_⟩
  show RK.wSs C (fun x _ => Ed x) (irCup c1 c2 c3 c4 c5) (deOf false true Qd) [.v (.sc ns), .no]
  unfold irCup
  array_get_dec
  refine ⟨by decide, by rw [List.length_map]; exact sz (by omega), ?_⟩
  obtain ⟨d, hd⟩ : ∃ d : Int, atI (ns.map D.int ++ [D.int 0]) 0 = some (.int d) := by
    cases ns with
    | nil => exact ⟨0, by rfl⟩
    | cons n ns => exact ⟨n, by show atI (D.int n :: _) 0 = _; unfold atI ixN; rw [if_pos (by decide), if_pos (by simp only [List.length_cons]; omega)]; rfl⟩
  refine idx_l hd ?_
  have habs : 0 ≤ (if d < 0 then -d else d) := by split <;> omega
  array_get_dec
  generalize (if d < 0 then -d else d) = e at habs
  refine ⟨⟨by decide, by decide, by decide⟩, ?_⟩
  have fin : ∀ a : Int, 0 ≤ a → Qd (.lst [.int a, .int ((e * c2 + c3) % c4 + c5)]) [] := fun a ha => h _ ⟨a, _, rfl, ha, by have := Int.emod_nonneg (e * c2 + c3) (show c4 ≠ 0 by omega); omega, by
    have := Int.emod_lt_of_pos (e * c2 + c3) h4.1; omega⟩
  refine brE_by (fun hk => ?_) fun hk => ?_
  · array_get_dec
    refine ⟨cdiv h1.1 (by omega), mulR h2.1 (by omega), h4.1, by decide, fin _ (Int.ediv_nonneg habs (by omega))⟩
  · array_get_dec
    exact ⟨mulR h2.1 (by omega), h4.1, by decide, fin _ (by omega)⟩
theorem wp_roll {c1 c2 c3 c4 c5 c6 : Int} (h1 : 0 ≤ c1 ∧ c1 < 2 ^ 32) (h3 : 0 < c3 ∧ c3 < 2 ^ 32) (h5 : 0 < c5 ∧ c5 < 2 ^ 32) (h6 : 0 < c6 ∧ c6 < 2 ^ 32) (ds : List D) (Qd : D → List D → Prop) (Ed : Xn → Prop) (h : spRoll ds Qd Ed) :
    ds.length = 2 ∧ RK.wSs C (fun x _ => Ed x) (irRoll c1 c2 c3 c4 c5 c6) (deOf true false Qd) (startE 4 true ds) := by
  obtain ⟨c, n, rfl, ⟨a, b, rfl, ha, hb, hb'⟩, hn, hn', h⟩ := h
  refine ⟨rfl, ?_⟩
  show RK.wSs C (fun x _ => Ed x) (irRoll c1 c2 c3 c4 c5 c6) (deOf true false Qd) [.io [.int a, .int b], .v (.int n), .no, .no]
  unfold irRoll
  array_get_dec
  refine brK_by (fun hk => ?_) fun hk => ?_
  · array_get_dec
    refine ⟨hn, cdiv hn (by omega), ?_⟩
    refine h _ _ (Int.emod_nonneg _ (by omega)) (Int.emod_lt_of_pos _ hn) ⟨a / n, b, rfl, Int.ediv_nonneg ha (by omega), hb, hb'⟩
  · array_get_dec
    have m0 := Int.emod_nonneg (b * c1 + c2) (show c3 ≠ 0 by omega)
    have m1 := Int.emod_lt_of_pos (b * c1 + c2) h3.1
    refine ⟨mulR h1.1 (by omega), h3.1, mulL m0 (by omega), h5.1, cdiv h6.1 (by omega), hn, ?_⟩
    exact h _ _ (Int.emod_nonneg _ (by omega)) (Int.emod_lt_of_pos _ hn) ⟨a, (b * c1 + c2) % c3, rfl, ha, m0, by omega⟩
end
/-! ### one of some things -/
def irSome (r : Nat) : List Sm := [(.ret (.idx (.v 1) (.call r [(.v 0), (.bi .len [(.v 1)])])))]
def spSome : SpT := fun ds Q _ => ∃ (c xs : List D), (ds = [.lst c, .lst xs] ∨ ds = [.lst c, .tup xs]) ∧ CupOk c ∧ xs ≠ [] ∧ xs.length < 2 ^ 24 ∧ ∀ d c', d ∈ xs → CupOk c' → Q d c'
theorem spSome_mono : Mono spSome := by
  rintro ds Q Q' E E' hQ hE ⟨c, xs, h1, h2, h3, h4, h5⟩
  exact ⟨c, xs, h1, h2, h3, h4, fun d c' a b => hQ _ _ (h5 d c' a b)⟩
theorem use_some {C : Ct} {E : Xn → En → Prop} {kf : List D → En} {ρ' : En} {Q : R → En → Prop} {f : Nat} (h : C.sp f = spSome) (hf : C.fr f = false) {c xs : List D} (hc : CupOk c) (hx : xs ≠ []) (hl : xs.length < 2 ^ 24) (q : ∀ d c', d ∈ xs → CupOk c' → Q (.v d) (kf c')) : finD C f E kf ρ' Q [.lst c, .lst xs] := by
  unfold finD
  rw [h, hf]
  exact ⟨c, xs, .inl rfl, hc, hx, hl, q⟩
theorem use_someT {C : Ct} {E : Xn → En → Prop} {kf : List D → En} {ρ' : En} {Q : R → En → Prop} {f : Nat} (h : C.sp f = spSome) (hf : C.fr f = false) {c xs : List D} (hc : CupOk c) (hx : xs ≠ []) (hl : xs.length < 2 ^ 24) (q : ∀ d c', d ∈ xs → CupOk c' → Q (.v d) (kf c')) : finD C f E kf ρ' Q [.lst c, .tup xs] := by
  unfold finD
  rw [h, hf]
  exact ⟨c, xs, .inr rfl, hc, hx, hl, q⟩
section
variable {C : Ct}
theorem atI_in {xs : List D} {r : Int} (h0 : 0 ≤ r) (h : r < xs.length) : ∃ d, atI xs r = some d ∧ d ∈ xs := by
  obtain ⟨n, rfl⟩ := Int.eq_ofNat_of_zero_le h0
  have hn : n < xs.length := by omega
  exact ⟨xs[n], atI_nat (List.getElem?_eq_getElem hn), List.getElem_mem hn⟩
theorem wp_some {r : Nat} (hr : C.sp r = spRoll) (hi : C.io r = some 0) (hf : C.fr r = false) (ds : List D) (Qd : D → List D → Prop) (Ed : Xn → Prop) (h : spSome ds Qd Ed) :
    ds.length = 2 ∧ RK.wSs C (fun x _ => Ed x) (irSome r) (deOf true false Qd) (startE 2 true ds) := by
  obtain ⟨c, xs, h1, hc, hx, hl, h⟩ := h
  have h0 : 0 < xs.length := List.length_pos_iff.mpr hx
  rcases h1 with rfl | rfl
  · refine ⟨rfl, ?_⟩
    show RK.wSs C (fun x _ => Ed x) (irSome r) (deOf true false Qd) [.io c, .v (.lst xs)]
    unfold irSome
    array_get_dec
    simp only [↓u_cio hi]
    array_get_dec
    refine use_roll hr hf hc (by omega) (by omega) fun z c' z0 z1 hc' => ?_
    obtain ⟨d, e, hd⟩ := atI_in z0 z1
    array_get_dec
    exact idx_l e (h _ _ hd hc')
  · refine ⟨rfl, ?_⟩
    show RK.wSs C (fun x _ => Ed x) (irSome r) (deOf true false Qd) [.io c, .v (.tup xs)]
    unfold irSome
    array_get_dec
    simp only [↓u_cio hi]
    array_get_dec
    refine use_roll hr hf hc (by omega) (by omega) fun z c' z0 z1 hc' => ?_
    obtain ⟨d, e, hd⟩ := atI_in z0 z1
    array_get_dec
    exact idx_t e (h _ _ hd hc')
end
/-! ### whole numbers -/
def fitsD : D → Int → Int → Bool
  | .int i, lo, hi => decide (lo ≤ i) && decide (i ≤ hi)
  | _, _, _ => false
abbrev D3 : Type := D × Int × Int
def spFits : SpT := spF (fun x : D3 => [x.1, .int x.2.1, .int x.2.2]) (fun x => (tyD x.1).isSome = true) fun x => .bl (fitsD x.1 x.2.1 x.2.2)
def irFits : List Sm := [(.ret (.and_ (.isi (.v 0) "int") (.and_ (.not_ (.isi (.v 0) "bool")) (.cmp2 .le .le (.v 1) (.v 0) (.v 2)))))]
def spNeed (x : Nat) : SpT := fun ds Q E => ∃ (d : D) (lo hi : Int), ds = [d, .int lo, .int hi] ∧ (tyD d).isSome = true ∧ (if fitsD d lo hi = true then Q .non [] else E ⟨x, []⟩)
def irNeed (f x : Nat) (m : Str) : List Sm := [(.ifs (.not_ (.call f [(.v 0), (.v 1), (.v 2)])) [(.rai x m)] [])]
theorem spNeed_mono {x : Nat} : Mono (spNeed x) := by
  rintro ds Q Q' E E' hQ hE ⟨d, lo, hi, h1, h2, h3⟩
  refine ⟨d, lo, hi, h1, h2, ?_⟩
  split at h3
  · rename_i h; rw [if_pos h]; exact hQ _ _ h3
  · rename_i h; rw [if_neg h]; exact hE _ h3
section
variable {C : Ct}
theorem wp_fits (ds : List D) (Qd : D → List D → Prop) (Ed : Xn → Prop) (h : spFits ds Qd Ed) :
    ds.length = 3 ∧ RK.wSs C (fun x _ => Ed x) irFits (deOf false false Qd) (startE 3 false ds) := by
  obtain ⟨⟨d, lo, hi⟩, rfl, hd, h⟩ := h
  refine ⟨rfl, ?_⟩
  show RK.wSs C (fun x _ => Ed x) irFits (deOf false false Qd) [.v d, .v (.int lo), .v (.int hi)]
  unfold irFits
  cases d <;> (first | (cases hd; done) | skip) <;> array_get_dec
  case bl => exact h
  case int i =>
    have h : Qd (.bl (decide (lo ≤ i) && decide (i ≤ hi))) [] := h
    cases hk : decide (lo ≤ i) with
    | true => rw [hk] at h; array_get_dec; exact h
    | false => rw [hk] at h; array_get_dec; exact h
  all_goals exact h
theorem wp_need {f x : Nat} {m : Str} (hF : C.sp f = spFits) (hi : C.io f = none) (hf : C.fr f = false) (ds : List D) (Qd : D → List D → Prop) (Ed : Xn → Prop) (h : spNeed x ds Qd Ed) :
    ds.length = 3 ∧ RK.wSs C (fun x _ => Ed x) (irNeed f x m) (deOf false false Qd) (startE 3 false ds) := by
  obtain ⟨d, lo, hi', rfl, hd, h⟩ := h
  refine ⟨rfl, ?_⟩
  show RK.wSs C (fun x _ => Ed x) (irNeed f x m) (deOf false false Qd) [.v d, .v (.int lo), .v (.int hi')]
  unfold irNeed
  array_get_dec
  simp only [↓u_cd hi]
  array_get_dec
  refine use_F hF hf (d, lo, hi') rfl hd ?_
  array_get_dec
  cases hk : fitsD d lo hi' with
  | true =>
    rw [hk] at h
    array_get_dec
    exact ⟨rfl, h⟩
  | false =>
    rw [hk] at h
    array_get_dec
    exact h
end
theorem use_need {C : Ct} {E : Xn → En → Prop} {kf : List D → En} {ρ' : En} {Q : R → En → Prop} {f x : Nat} (h : C.sp f = spNeed x) (hf : C.fr f = false) (hi : C.io f = none) {d : D} {lo hi' : Int} (hd : (tyD d).isSome = true) (q1 : fitsD d lo hi' = true → Q (.v .non) (kf [])) (q0 : fitsD d lo hi' = false → E ⟨x, []⟩ ρ') : finD C f E kf ρ' Q [d, .int lo, .int hi'] := by
  unfold finD
  rw [h, hf]
  refine ⟨d, lo, hi', rfl, hd, ?_⟩
  cases hk : fitsD d lo hi' with
  | true => exact q1 hk
  | false => exact ⟨hi, q0 hk⟩
/-! ### the same -/
def sameOk : Nat → D → Bool
  | _, .non => true
  | _, .bl _ => true
  | _, .int _ => true
  | n + 1, .tup ds => decide (ds.length < 2 ^ 24) && ds.all (sameOk n)
  | n + 1, .lst ds => decide (ds.length < 2 ^ 24) && ds.all (sameOk n)
  | _, _ => false
def spSame (n : Nat) : SpT := fun ds Q _ => ∃ d : D, ds = [d, d] ∧ sameOk n d = true ∧ Q (.bl true) []
theorem spSame_mono {n : Nat} : Mono (spSame n) := by
  rintro ds Q Q' E E' hQ hE ⟨d, h1, h2, h3⟩
  exact ⟨d, h1, h2, hQ _ _ h3⟩
theorem use_same {C : Ct} {E : Xn → En → Prop} {kf : List D → En} {ρ' : En} {Q : R → En → Prop} {f n : Nat} (h : C.sp f = spSame n) (hf : C.fr f = false) {d d' : D} (e : d = d') (hd : sameOk n d = true) (q : Q (.v (.bl true)) (kf [])) : finD C f E kf ρ' Q [d, d'] := by
  unfold finD
  rw [h, hf]
  subst e
  exact ⟨d, rfl, hd, q⟩
def irSame (f : Nat) : List Sm :=
  [(.ifs (.or_ (.isi (.v 1) "tuple") (.isi (.v 1) "list"))
     [(.ifs (.or_ (.cmp .ne (.isi (.v 0) "tuple") (.isi (.v 1) "tuple")) (.or_ (.cmp .ne (.isi (.v 0) "list") (.isi (.v 1) "list")) (.cmp .ne (.bi .len [(.v 0)]) (.bi .len [(.v 1)]))))
        [(.ret (.c (.bl false)))]
        []),
      (.ret (.cmp .eq (.comp (.c (.int 1)) (.n 2) (.rng [(.bi .len [(.v 1)])]) [(.not_ (.call f [(.idx (.v 0) (.v 2)), (.idx (.v 1) (.v 2))]))] [(Str.ofString "at", 2)]) (.lst [])))]
     []),
   (.ifs (.cmp .is_ (.v 1) (.c .non))
     [(.ret (.cmp .is_ (.v 0) (.c .non)))]
     []),
   (.ifs (.isi (.v 1) "bool")
     [(.ret (.ite (.v 1) (.cmp .is_ (.v 0) (.c (.bl true))) (.cmp .is_ (.v 0) (.c (.bl false)))))]
     []),
   (.ifs (.isi (.v 1) "int")
     [(.ret (.and_ (.isi (.v 0) "int") (.and_ (.not_ (.isi (.v 0) "bool")) (.cmp .eq (.bi .int [(.v 0)]) (.v 1)))))]
     []),
   (.ret (.and_ (.isi (.v 0) "str") (.cmp .eq (.bi .str [(.v 0)]) (.v 1))))]
section
variable {C : Ct}
theorem eok_nil : EqOk (.lst []) := ⟨rfl, by show 1 + 0 ≤ 60; omega⟩
theorem range_get {n : Nat} {d : D} (h : d ∈ (List.range n).map fun (k : Nat) => D.int (k : Int)) : ∃ k, k < n ∧ d = .int (k : Int) := by
  obtain ⟨k, h1, rfl⟩ := List.mem_map.mp h
  exact ⟨k, List.mem_range.mp h1, rfl⟩
theorem wp_same {f n : Nat} (hS : ∀ m, n = m + 1 → C.sp f = spSame m) (hi : C.io f = none) (hf : C.fr f = false) (ds : List D) (Qd : D → List D → Prop) (Ed : Xn → Prop) (h : spSame n ds Qd Ed) :
    ds.length = 2 ∧ RK.wSs C (fun x _ => Ed x) (irSame f) (deOf false false Qd) (startE 3 false ds) := by
  obtain ⟨d, rfl, hd, h⟩ := h
  refine ⟨rfl, ?_⟩
  show RK.wSs C (fun x _ => Ed x) (irSame f) (deOf false false Qd) [.v d, .v d, .no]
  unfold irSame
  cases d with
  | non => array_get_dec; exact h
  | bl b =>
    array_get_dec
    cases b
    · array_get_dec; exact h
    · array_get_dec; exact h
  | int i => array_get_dec; exact h
  | tup xs =>
    cases n with
    | zero => cases hd
    | succ n =>
      simp only [sameOk, Bool.and_eq_true, decide_eq_true_eq, List.all_eq_true] at hd
      array_get_dec
      refine ⟨⟨by omega, by omega⟩, comp_pure (fun _ => none) (sz (by simp; omega)) (fun d hdm k hk => ?_) ?_⟩
      · obtain ⟨m, hm, rfl⟩ := range_get hdm
        array_get_dec
        refine idx_t (atI_nat (List.getElem?_eq_getElem (by omega))) ?_
        array_get_dec
        refine idx_t (atI_nat (List.getElem?_eq_getElem (by omega))) ?_
        array_get_dec
        simp only [↓u_cd hi]
        array_get_dec
        refine use_same (hS n rfl) hf rfl (hd.2 _ (List.getElem_mem _)) ?_
        array_get_dec
        exact hk
      · array_get_dec
        have e : List.filterMap (fun _ => (none : Option D)) (List.map (fun k : Nat => D.int k) (List.range (xs.length : Int).toNat)) = [] := List.filterMap_eq_nil_iff.mpr fun _ _ => rfl
        rw [e]
        exact ⟨Nat.zero_le _, eok_nil, eok_nil, h⟩
  | lst xs =>
    cases n with
    | zero => cases hd
    | succ n =>
      simp only [sameOk, Bool.and_eq_true, decide_eq_true_eq, List.all_eq_true] at hd
      array_get_dec
      refine ⟨⟨by omega, by omega⟩, comp_pure (fun _ => none) (sz (by simp; omega)) (fun d hdm k hk => ?_) ?_⟩
      · obtain ⟨m, hm, rfl⟩ := range_get hdm
        array_get_dec
        refine idx_l (atI_nat (List.getElem?_eq_getElem (by omega))) ?_
        array_get_dec
        refine idx_l (atI_nat (List.getElem?_eq_getElem (by omega))) ?_
        array_get_dec
        simp only [↓u_cd hi]
        array_get_dec
        refine use_same (hS n rfl) hf rfl (hd.2 _ (List.getElem_mem _)) ?_
        array_get_dec
        exact hk
      · array_get_dec
        have e : List.filterMap (fun _ => (none : Option D)) (List.map (fun k : Nat => D.int k) (List.range (xs.length : Int).toNat)) = [] := List.filterMap_eq_nil_iff.mpr fun _ _ => rfl
        rw [e]
        exact ⟨Nat.zero_le _, eok_nil, eok_nil, h⟩
  | _ => simp [sameOk] at hd
end
/-! ### a number up to most -/
def irNumber (r : Nat) : List Sm :=
  [(.asg (.n 2) (.c (.int 0))),
   (.for_ (.n 3) (.rng [(.bin .add (.c (.int 1)) (.call r [(.v 0), (.c (.int 12))]))])
     [(.asg (.n 2) (.bin .add (.bin .mul (.c (.int 1000)) (.v 2)) (.call r [(.v 0), (.c (.int 1000))])))]),
   (.ret (.bin .mod (.bi .int [(.v 2)]) (.bin .add (.v 1) (.c (.int 1)))))]
def spNumber : SpT := fun ds Q _ => ∃ (c : List D) (m : Int), ds = [.lst c, .int m] ∧ CupOk c ∧ 0 ≤ m ∧ ∀ (v : Int) c', 0 ≤ v → v ≤ m → CupOk c' → Q (.int v) c'
theorem spNumber_mono : Mono spNumber := by
  rintro ds Q Q' E E' hQ hE ⟨c, m, h1, h2, h3, h4⟩
  exact ⟨c, m, h1, h2, h3, fun v c' a b d => hQ _ _ (h4 v c' a b d)⟩
theorem use_number {C : Ct} {E : Xn → En → Prop} {kf : List D → En} {ρ' : En} {Q : R → En → Prop} {f : Nat} (h : C.sp f = spNumber) (hf : C.fr f = false) {c : List D} {m : Int} (hc : CupOk c) (hm : 0 ≤ m) (q : ∀ (v : Int) c', 0 ≤ v → v ≤ m → CupOk c' → Q (.v (.int v)) (kf c')) : finD C f E kf ρ' Q [.lst c, .int m] := by
  unfold finD
  rw [h, hf]
  exact ⟨c, m, rfl, hc, hm, q⟩
theorem wp_number {C : Ct} {r : Nat} (hr : C.sp r = spRoll) (hi : C.io r = some 0) (hf : C.fr r = false) (ds : List D) (Qd : D → List D → Prop) (Ed : Xn → Prop) (h : spNumber ds Qd Ed) :
    ds.length = 2 ∧ RK.wSs C (fun x _ => Ed x) (irNumber r) (deOf true false Qd) (startE 4 true ds) := by
  obtain ⟨c, m, rfl, hc, hm, h⟩ := h
  refine ⟨rfl, ?_⟩
  show RK.wSs C (fun x _ => Ed x) (irNumber r) (deOf true false Qd) [.io c, .v (.int m), .no, .no]
  unfold irNumber
  array_get_dec
  simp only [↓u_cio hi]
  array_get_dec
  refine use_roll hr hf hc (by omega) (by omega) fun z c' z0 z1 hc' => ?_
  array_get_dec
  refine ⟨by omega, for_inv (fun _ ρ => ∃ c k s, CupOk c ∧ Sl.free s = true ∧ ρ = [.io c, .v (.int m), .v (.int k), s]) ⟨c', 0, .no, hc', rfl, rfl⟩ ?_ ?_⟩
  · rintro i d ρ k hd ⟨c, f, s, hc, hs, rfl⟩ hk
    array_get_dec
    refine ⟨hs, mulL (by omega) (by omega), ?_⟩
    simp only [↓u_cio hi]
    array_get_dec
    refine use_roll hr hf hc (by omega) (by omega) fun z c' z0 z1 hc' => ?_
    array_get_dec
    exact hk _ ⟨c', _, _, hc', rfl, rfl⟩
  · rintro ρ ⟨c, f, s, hc, hs, rfl⟩
    array_get_dec
    have p : 0 < m + 1 := by omega
    exact ⟨p, h _ _ (Int.emod_nonneg _ (by omega)) (by have := Int.emod_lt_of_pos f p; omega) hc⟩
end RK
namespace RK
open PySem L2
/-! ## one def behind the other -/
def Cset (C : Ct) (n : Nat) (s : SpT) : Ct := ⟨fun g => if g = n then s else C.sp g, C.io, C.fr, C.gl⟩
theorem Cset_sp {C : Ct} {n : Nat} {s : SpT} : (Cset C n s).sp n = s := if_pos rfl
theorem Cset_ne {C : Ct} {n g : Nat} {s : SpT} (h : g ≠ n) : (Cset C n s).sp g = C.sp g := if_neg h
theorem Cset_mono {C : Ct} {n : Nat} {s : SpT} (hC : SpMono C) (hs : Mono s) : SpMono (Cset C n s) := by
  intro f ds Q Q' E E' hQ hE h
  by_cases e : f = n
  · subst e
    rw [Cset_sp] at h ⊢
    exact hs ds Q Q' E E' hQ hE h
  · rw [Cset_ne e] at h ⊢
    exact hC f ds Q Q' E E' hQ hE h
section
variable {P : Program} {w : World} {K : PySem.W.Frag} {mg : Str → Option Value} {base : Heap} {fa : Nat → Addr} {C : Ct} {lv lv' n : Nat}
theorem FnK.mono {f : Nat} {io fr : Bool} {sp : SpT} (h : FnK P w K mg base fa lv f io fr sp) (l : lv ≤ lv') : FnK P w K mg base fa lv' f io fr sp := by
  obtain ⟨k, fd, ps, a, b, c⟩ := h.ex
  exact ⟨k, fd, ps, a, Nat.le_trans b l, c⟩
def Up (P : Program) (w : World) (K : PySem.W.Frag) (mg : Str → Option Value) (base : Heap) (fa : Nat → Addr) (C : Ct) (lv n : Nat) : Prop := ∀ g, g < n → FnK P w K mg base fa lv g (C.io g).isSome (C.fr g) (C.sp g)
theorem Up.zero : Up P w K mg base fa C 0 0 := fun _ h => absurd h (Nat.not_lt_zero _)
theorem Up.succ (U : Up P w K mg base fa C lv n) (k : FnK P w K mg base fa lv' n (C.io n).isSome (C.fr n) (C.sp n)) (l : lv ≤ lv') : Up P w K mg base fa C lv' (n + 1) := fun g hg => by
  by_cases e : g = n
  · subst e; exact k
  · exact (U g (by omega)).mono l
theorem Up.cset (U : Up P w K mg base fa C lv n) {s : SpT} : Up P w K mg base fa (Cset C n s) lv n := fun g hg => by
  rw [Cset_ne (by omega)]; exact U g hg
theorem Md.le {gl : Str → Option D} {fn : Nat → Str} {nf x0 nx : Nat} (M : Md K mg fa gl fn nf x0 nx) (h : n ≤ nf) : Md K mg fa gl fn n x0 nx :=
  ⟨fun k a b => ⟨(M.exs k a b).q, (M.exs k a b).g, (M.exs k a b).kp, (M.exs k a b).sb, (M.exs k a b).ty⟩, M.glb, M.blt, fun f hf => M.at_ f (by omega)⟩
variable {x qual : Str} {params : Arguments} {body : List Stmt} {scope : Scope} {fd : FuncData} {N ps : List Str} {fn : Nat → Str} {nf x0 nx : Nat} {ss : List Sm} {sp : SpT} {io fr : Bool} {f : Nat}
theorem fnk (F : FunD K x qual params body scope [] [] (fa f) fd) (S : FnScope N ps scope) (hN : ps.length ≤ N.length) (hm : mSs ⟨N, fn, n, x0, nx⟩ ss scope body = true) (mono : SpMono C) (M : Md K mg fa C.gl fn nf x0 nx) (hn : n ≤ nf)
    (U : Up P w K mg base fa C lv n) (b : Binds K fd ps []) (hp : ∀ ds Qd Ed, sp ds Qd Ed → ds.length = ps.length ∧ RK.wSs C (fun x _ => Ed x) ss (deOf io fr Qd) (startE N.length io ds)) : FnK P w K mg base fa (lv + 1) f io fr sp :=
  ⟨lv + 1, fd, ps, RK.fn_ok F S hN hm mono (M.le hn) U hp, Nat.le_refl _, b⟩
theorem fnk_rec {S : Nat → SpT} (F : FunD K x qual params body scope [] [] (fa n) fd) (Sc : FnScope N ps scope) (hN : ps.length ≤ N.length) (hm : mSs ⟨N, fn, n + 1, x0, nx⟩ ss scope body = true) (mono : SpMono C) (monoS : ∀ m, Mono (S m)) (M : Md K mg fa C.gl fn nf x0 nx) (hn : n + 1 ≤ nf)
    (U : Up P w K mg base fa C lv n) (b : Binds K fd ps []) (h0 : ∀ ds Q E, ¬ S 0 ds Q E) (hp : ∀ m ds Qd Ed, S (m + 1) ds Qd Ed → ds.length = ps.length ∧ RK.wSs (Cset C n (S m)) (fun x _ => Ed x) ss (deOf (C.io n).isSome (C.fr n) Qd) (startE N.length (C.io n).isSome ds)) :
    ∀ m, FnK P w K mg base fa (lv + m) n (C.io n).isSome (C.fr n) (S m)
  | 0 => ⟨0, fd, ps, ⟨fun vs H Q E h => by obtain ⟨_, _, _, _, _, _, h, _⟩ := h; exact (h0 _ _ _ h).elim, fun A outer s H args us vs Q E _ _ _ _ h => by obtain ⟨_, _, _, _, _, _, h, _⟩ := h; exact (h0 _ _ _ h).elim⟩, Nat.zero_le _, b⟩
  | m + 1 => by
    have ih := fnk_rec F Sc hN hm mono monoS M hn U b h0 hp m
    have U' : Up P w K mg base fa (Cset C n (S m)) (lv + m) (n + 1) := Up.succ (lv := lv) U.cset (by rw [Cset_sp]; exact ih) (by omega)
    exact fnk (C := Cset C n (S m)) F Sc hN hm (Cset_mono mono (monoS m)) M hn U' b (hp m)
end
def spNo : SpT := fun _ _ _ => False
def recS (S : Nat → SpT) : Nat → SpT
  | 0 => spNo
  | m + 1 => S m
theorem recS_mono {S : Nat → SpT} (h : ∀ m, Mono (S m)) : ∀ m, Mono (recS S m)
  | 0 => fun _ _ _ _ _ _ _ h => h
  | m + 1 => h m
theorem recS_0 {S : Nat → SpT} (ds : List D) (Q : D → List D → Prop) (E : Xn → Prop) : ¬ recS S 0 ds Q E := id
/-! ## the head -/
def fasOf (fn : Nat → Str) (x0 nx : Nat) (gis : List (Str × Int)) : List He.Fa := ((List.range nx).map fun k => He.Fa.glo (fn k)) ++ (bltNames.map He.Fa.free) ++ (gis.map fun p => He.Fa.int p.1 p.2) ++ ((List.range (nx - x0)).map fun k => He.Fa.exc (fn (x0 + k)))
def glOf (gis : List (Str × Int)) (x : Str) : Option D := (gis.lookup x).map D.int
theorem facts_of {fas : List He.Fa} {dfs : List He.DefD} {K : PySem.W.Frag} (c : He.SaysD fas dfs K) {f : He.Fa} (h : f ∈ fas) : f.ok K = true := by
  have c1 := (He.ba (show ((fas.all fun f => f.ok K) && dfs.all fun d => d.ok K) = true from congrArg (fun z : He.AlD => z.1) c)).1
  exact List.all_eq_true.mp c1 f h
theorem lookup_in {α : Type} {l : List (Str × α)} {x : Str} {i : α} (h : l.lookup x = some i) : (x, i) ∈ l := by
  induction l with
  | nil => cases h
  | cons p l ih =>
    obtain ⟨y, j⟩ := p
    rw [List.lookup_cons] at h
    cases hb : x == y with
    | true =>
      rw [hb] at h
      have := beq_iff_eq.mp hb
      subst this; cases h; exact List.mem_cons_self
    | false =>
      rw [hb] at h
      exact List.mem_cons_of_mem _ (ih h)
theorem md_of {fn : Nat → Str} {x0 nx : Nat} {gis : List (Str × Int)} {dfs : List He.DefD} {K : PySem.W.Frag} {h : Heap} {mg : Str → Option Value} (c : He.SaysD (fasOf fn x0 nx gis) dfs K) (X : K.In h) (G : h.Ns mainGlobals mg) (hx : x0 ≤ nx)
    (kp : ∀ f, f < x0 → PySem.W.keepIn K (.ref (He.ga K (fn f))) = true) : Md K mg (fun k => He.ga K (fn k)) (glOf gis) fn x0 x0 nx := by
  have glo : ∀ k, k < nx → mg (fn k) = some (.ref (He.ga K (fn k))) := fun k hk => He.glo_ok X G (facts_of c (f := .glo (fn k)) (by
    unfold fasOf
    simp only [List.mem_append]
    exact .inl (.inl (.inl (List.mem_map.mpr ⟨k, List.mem_range.mpr hk, rfl⟩)))))
  refine ⟨fun k h1 h2 => ?_, fun y d hy => ?_, fun y hy => ?_, fun f hf => ⟨glo f (by omega), kp f hf⟩⟩
  · have e : He.Fa.exc (fn k) ∈ fasOf fn x0 nx gis := by
      unfold fasOf
      simp only [List.mem_append]
      exact .inr (List.mem_map.mpr ⟨k - x0, List.mem_range.mpr (by omega), by congr 2; omega⟩)
    obtain ⟨a, b, c', d⟩ := He.exc_ok (facts_of c e)
    exact ⟨a, glo k h2, b, c', d⟩
  · unfold glOf at hy
    cases e : gis.lookup y with
    | none => rw [e] at hy; cases hy
    | some i =>
      rw [e] at hy; cases hy
      obtain ⟨t, ht⟩ := He.int_ok X G (x := y) (i := i) (facts_of c (by
        unfold fasOf
        simp only [List.mem_append]
        exact .inl (.inr (List.mem_map.mpr ⟨_, lookup_in e, rfl⟩))))
      exact ⟨.int i, _, ht, ⟨t, rfl⟩, fun H => .int i⟩
  · exact He.free_ok X G (facts_of c (by
      unfold fasOf
      simp only [List.mem_append]
      exact .inl (.inl (.inr (List.mem_map.mpr ⟨y, hy, rfl⟩)))))
def spLaw : SpT := fun ds Q _ => ∃ ns : List Int, ds = [.sc ns] ∧ ns.length ≤ 63 ∧ Q (.bl true) []
theorem spLaw_mono : Mono spLaw := by
  rintro ds Q Q' E E' hQ hE ⟨ns, h1, h2, h3⟩
  exact ⟨ns, h1, h2, hQ _ _ h3⟩
end RK
namespace RK
open PySem L2 RK
/-! ## often wanted -/
theorem eok_l {xs : List D} (h : ∀ d ∈ xs, d.pl = true ∧ d.dep ≤ 59) : EqOk (.lst xs) := by
  refine ⟨?_, ?_⟩
  · show pls _ = true
    rw [pls_all, List.all_eq_true]
    exact fun d hd => (h d hd).1
  · have : ∀ l : List D, (∀ d ∈ l, d.pl = true ∧ d.dep ≤ 59) → deps l ≤ 59 := fun l => by
      induction l with
      | nil => intro _; show 0 ≤ 59; omega
      | cons d l ih =>
        intro h
        have a := (h d List.mem_cons_self).2
        have b := ih fun d hd => h d (List.mem_cons_of_mem _ hd)
        simp only [deps]; omega
    have := this xs h
    show 1 + deps xs ≤ 60
    omega
theorem eok_t {xs : List D} (h : ∀ d ∈ xs, d.pl = true ∧ d.dep ≤ 59) : EqOk (.tup xs) := eok_l h
theorem eok_l0 : EqOk (.lst []) := eok_nil
theorem eok_t0 : EqOk (.tup []) := ⟨rfl, by show 1 + 0 ≤ 60; omega⟩
theorem pd_int {i : Int} : (D.int i).pl = true ∧ (D.int i).dep ≤ 0 := ⟨rfl, Nat.le_refl _⟩
theorem pd_mono {d : D} {n m : Nat} (h : d.pl = true ∧ d.dep ≤ n) (l : n ≤ m) : d.pl = true ∧ d.dep ≤ m := ⟨h.1, Nat.le_trans h.2 l⟩
theorem pd_t {xs : List D} {n : Nat} (h : ∀ d ∈ xs, d.pl = true ∧ d.dep ≤ n) : (D.tup xs).pl = true ∧ (D.tup xs).dep ≤ n + 1 := by
  refine ⟨?_, ?_⟩
  · show pls _ = true
    rw [pls_all, List.all_eq_true]
    exact fun d hd => (h d hd).1
  · have : ∀ l : List D, (∀ d ∈ l, d.pl = true ∧ d.dep ≤ n) → deps l ≤ n := fun l => by
      induction l with
      | nil => intro _; exact Nat.zero_le _
      | cons d l ih =>
        intro h
        have a := (h d List.mem_cons_self).2
        have b := ih fun d hd => h d (List.mem_cons_of_mem _ hd)
        simp only [deps]; omega
    have := this xs h
    show 1 + deps xs ≤ n + 1
    omega
theorem pd_l {xs : List D} {n : Nat} (h : ∀ d ∈ xs, d.pl = true ∧ d.dep ≤ n) : (D.lst xs).pl = true ∧ (D.lst xs).dep ≤ n + 1 := pd_t h
theorem eqD_nil {xs : List D} : eqD (.lst xs) (.lst []) = xs.isEmpty := by cases xs <;> rfl
theorem eqD_nilT {xs : List D} : eqD (.tup xs) (.tup []) = xs.isEmpty := by cases xs <;> rfl
theorem eqD_refl {d : D} (h : EqOk d) : eqD d d = true := by
  unfold eqD
  exact SeqAt.eqv_refl _ (dep_py d h.1).2
theorem sok_l {n : Nat} {xs : List D} (hl : xs.length < 2 ^ 24) (h : ∀ d ∈ xs, sameOk n d = true) : sameOk (n + 1) (.lst xs) = true := by
  simp only [sameOk, Bool.and_eq_true, decide_eq_true_eq, List.all_eq_true]; exact ⟨hl, h⟩
theorem sok_t {n : Nat} {xs : List D} (hl : xs.length < 2 ^ 24) (h : ∀ d ∈ xs, sameOk n d = true) : sameOk (n + 1) (.tup xs) = true := by
  simp only [sameOk, Bool.and_eq_true, decide_eq_true_eq, List.all_eq_true]; exact ⟨hl, h⟩
theorem sok_i {n : Nat} {i : Int} : sameOk n (.int i) = true := by cases n <;> rfl
theorem sok_b {n : Nat} {i : Bool} : sameOk n (.bl i) = true := by cases n <;> rfl
theorem sok_n {n : Nat} : sameOk n .non = true := by cases n <;> rfl
theorem need_ok {lo hi n : Int} (h1 : lo ≤ n) (h2 : n ≤ hi) (h : fitsD (.int n) lo hi = false) : False := by
  simp only [fitsD, Bool.and_eq_false_iff, decide_eq_false_iff_not] at h
  omega
theorem brT_by {C : Ct} {E : Xn → En → Prop} {k : Bool} {a : Ex} {ρ : En} {Q : Bool → En → Prop} (h1 : k = true → RK.wT C a E ρ Q) (h0 : k = false → Q false ρ) : brT C E k a ρ Q := by
  cases k
  · exact h0 rfl
  · exact h1 rfl
theorem brF_by {C : Ct} {E : Xn → En → Prop} {k : Bool} {a : Ex} {ρ : En} {Q : Bool → En → Prop} (h1 : k = true → Q true ρ) (h0 : k = false → RK.wT C a E ρ Q) : brF C E k a ρ Q := by
  cases k
  · exact h0 rfl
  · exact h1 rfl
theorem fm_some {α β : Type} (g : α → β) (l : List α) : l.filterMap (fun x => some (g x)) = l.map g := by
  induction l with
  | nil => rfl
  | cons a l ih => simp [ih]
/-- a filter and a map at once -/
theorem fm_map {α β γ : Type} (e : α → β) (f : β → Option γ) (p : α → Bool) (g : α → γ) (l : List α) (h : ∀ a ∈ l, f (e a) = if p a = true then some (g a) else none) : (l.map e).filterMap f = (l.filter p).map g := by
  induction l with
  | nil => rfl
  | cons a l ih =>
    have ih := ih fun a ha => h a (List.mem_cons_of_mem _ ha)
    simp only [List.map_cons, List.filterMap_cons, List.filter_cons, h a List.mem_cons_self]
    cases p a <;> simp [ih]
theorem bols_map {α : Type} (l : List α) (g : α → Bool) : bolsD (l.map fun x => D.bl (g x)) = some (l.map g) := by
  induction l with
  | nil => rfl
  | cons a l ih => simp only [List.map_cons, bolsD, ih]; rfl
theorem ints_map (l : List Int) : intsD (l.map D.int) = some l := by
  induction l with
  | nil => rfl
  | cons a l ih => simp only [List.map_cons, intsD, ih]; rfl
def nats (l : List Nat) : List D := l.map fun k : Nat => D.int k
theorem ints_nats (l : List Nat) : intsD (nats l) = some (l.map fun k : Nat => (k : Int)) := by
  have := ints_map (l.map fun k : Nat => (k : Int))
  rw [List.map_map] at this
  exact this
theorem nats_len (l : List Nat) : (nats l).length = l.length := List.length_map ..
theorem nats_snoc {l : List Nat} {a : Nat} : nats l ++ [.int a] = nats (l ++ [a]) := by unfold nats; rw [List.map_append]; rfl
theorem nats_app {l m : List Nat} : nats l ++ nats m = nats (l ++ m) := by unfold nats; rw [List.map_append]
theorem nats_rep {k a : Nat} : (List.replicate k [D.int (a : Int)]).flatten = nats (List.replicate k a) := by
  unfold nats
  induction k with
  | zero => rfl
  | succ k ih => rw [List.replicate_succ, List.flatten_cons, ih, List.replicate_succ]; rfl
theorem nats_pd (l : List Nat) : ∀ d ∈ nats l, d.pl = true ∧ d.dep ≤ 0 := fun d hd => by
  obtain ⟨k, _, rfl⟩ := List.mem_map.mp hd
  exact pd_int
theorem sum_nats (l : List Nat) : (l.map fun k : Nat => (k : Int)).sum = ((l.sum : Nat) : Int) := by
  induction l with
  | nil => rfl
  | cons a l ih => simp only [List.map_cons, List.sum_cons, ih]; omega
theorem range_get' {n i : Nat} {d : D} (h : ((List.range n).map fun (k : Nat) => D.int (k : Int))[i]? = some d) : i < n ∧ d = .int i := by
  rw [List.getElem?_map] at h
  obtain ⟨a, h1, h2⟩ := Option.map_eq_some_iff.mp h
  have := List.getElem?_eq_some_iff.mp h1
  obtain ⟨h3, h4⟩ := this
  simp only [List.length_range] at h3
  simp only [List.getElem_range] at h4
  subst h4; exact ⟨h3, h2.symm⟩
/-! ### sorted once -/
theorem perm_sorted {α : Type} {R : α → α → Prop} : ∀ {xs ys : List α}, (∀ a ∈ xs, ∀ b ∈ xs, R a b → R b a → a = b) → xs.Perm ys → xs.Pairwise R → ys.Pairwise R → xs = ys
  | [], ys, _, h, _, _ => h.nil_eq.symm ▸ rfl
  | x :: xs, [], _, h, _, _ => nomatch h.eq_nil
  | x :: xs, y :: ys, as, h, h1, h2 => by
    have hxy : x = y := by
      by_cases e : x = y
      · exact e
      · have m1 : x ∈ y :: ys := h.mem_iff.mp List.mem_cons_self
        have m2 : y ∈ x :: xs := h.mem_iff.mpr List.mem_cons_self
        rcases List.mem_cons.mp m1 with z | m1
        · exact absurd z e
        rcases List.mem_cons.mp m2 with z | m2
        · exact absurd z.symm e
        exact as x List.mem_cons_self y (List.mem_cons_of_mem _ m2) ((List.pairwise_cons.mp h1).1 y m2) ((List.pairwise_cons.mp h2).1 x m1)
    subst hxy
    rw [perm_sorted (fun a ha b hb => as a (List.mem_cons_of_mem _ ha) b (List.mem_cons_of_mem _ hb)) h.cons_inv (List.pairwise_cons.mp h1).2 (List.pairwise_cons.mp h2).2]
theorem lexI_tot : ∀ a b : List Int, lexI a b = false → lexI b a = false → a = b
  | [], [], _, _ => rfl
  | [], _ :: _, h, _ => nomatch h
  | _ :: _, [], _, h => nomatch h
  | a :: r, b :: t, h1, h2 => by
    simp only [lexI, Bool.or_eq_false_iff, Bool.and_eq_false_iff, Bool.not_eq_false', decide_eq_true_eq, decide_eq_false_iff_not] at h1 h2
    have : a = b := by omega
    subst this
    rw [lexI_tot r t (by rcases h1.2 with h | h; omega; exact h) (by rcases h2.2 with h | h; omega; exact h)]
theorem tupI_inj {a b : List Int} (h : tupI a = tupI b) : a = b := by
  unfold tupI at h
  injection h with h
  exact (List.map_inj_right (fun a b h => by cases h; rfl)).mp h
/-- sorted lists of tuples: the one that is in order -/
theorem sortT_eq {xs zs : List (List Int)} {ys : List D} (h : ys.Perm (xs.map tupI)) (hs : ys.Pairwise leT) (hz : zs.Perm xs) (ho : zs.Pairwise fun a b => lexI b a = false) : ys = zs.map tupI := by
  have hy : ∀ y ∈ ys, ∃ n, y = tupI n := fun y m => by
    obtain ⟨n, _, rfl⟩ := List.mem_map.mp (h.mem_iff.mp m)
    exact ⟨n, rfl⟩
  refine perm_sorted (R := leT) (fun a ha b hb h1 h2 => ?_) (h.trans (hz.map _).symm) hs (List.pairwise_map.mpr (ho.imp fun {a b} hab n m hn hm => ?_))
  · obtain ⟨n, rfl⟩ := hy a ha
    obtain ⟨m, rfl⟩ := hy b hb
    rw [lexI_tot n m (h2 m n rfl rfl) (h1 n m rfl rfl)]
  · rw [← tupI_inj hn, ← tupI_inj hm]; exact hab
theorem sortI_eq {ns ms zs : List Int} (h : ms.Perm ns) (hs : ms.Pairwise (· ≤ ·)) (hz : zs.Perm ns) (ho : zs.Pairwise (· ≤ ·)) : ms = zs :=
  perm_sorted (fun a _ b _ h1 h2 => Int.le_antisymm h1 h2) (h.trans hz.symm) hs ho
/-- in order, by putting in -/
def insL (a : List Int) : List (List Int) → List (List Int)
  | [] => [a]
  | b :: r => if lexI b a = true then b :: insL a r else a :: b :: r
def srtL : List (List Int) → List (List Int)
  | [] => []
  | a :: r => insL a (srtL r)
theorem insL_perm (a : List Int) : ∀ l, (insL a l).Perm (a :: l)
  | [] => .refl _
  | b :: r => by
    unfold insL
    split
    · exact ((insL_perm a r).cons b).trans (.swap ..)
    · exact .refl _
theorem srtL_perm : ∀ l, (srtL l).Perm l
  | [] => .refl _
  | a :: r => (insL_perm a _).trans ((srtL_perm r).cons a)
/-! ### loops by what they reckon -/
def runF {S : Type} (step : S → Option S) : Nat → S → Option S
  | 0, _ => none
  | k + 1, s => match step s with
    | none => some s
    | some s' => runF step k s'
section
variable {C : Ct} {E : Xn → En → Prop} {D : DE}
theorem whl_run {S : Type} {c : Ex} {a : List Sm} (step : S → Option S) (enc : S → En) {s0 r : S} {N : Nat} (h : runF step N s0 = some r) (hn : D.nx (enc r))
    (hb : ∀ s, (∃ k, runF step k s = some r) → ∀ nx' : En → Prop, (∀ s', step s = some s' → nx' (enc s')) → (step s = none → D.nx (enc s)) → RK.wT C c E (enc s) fun k ρ1 => brK k (RK.wSs C E a ⟨nx', D.rt, D.nx, nx'⟩) D.nx ρ1) : whlK C E c a D (enc s0) := by
  refine whl_inv (fun m ρ => ∃ s, ρ = enc s ∧ runF step m s = some r) N ⟨s0, rfl, h⟩ ?_
  rintro m ρ ⟨s, rfl, hs⟩
  refine hb s ⟨m, hs⟩ _ (fun s' e => ?_) (fun e => ?_)
  · cases m with
    | zero => cases hs
    | succ m =>
      simp only [runF, e] at hs
      exact ⟨m, Nat.lt_succ_self _, s', rfl, hs⟩
  · cases m with
    | zero => cases hs
    | succ m =>
      simp only [runF, e] at hs
      cases hs; exact hn
/-- a step with a look at what it begins with: where the look fails, it goes nowhere -/
def chk {S : Type} (ok : S → Bool) (step : S → Option S) (s : S) : Option S := if ok s = true then step s else some s
theorem runF_stuck {S : Type} {step : S → Option S} {s : S} (h : step s = some s) : ∀ k, runF step k s = none
  | 0 => rfl
  | k + 1 => by simp only [runF, h]; exact runF_stuck h k
theorem whl_runC {S : Type} {c : Ex} {a : List Sm} (ok : S → Bool) (step : S → Option S) (enc : S → En) {s0 r : S} {N : Nat} (h : runF (chk ok step) N s0 = some r) (hn : D.nx (enc r))
    (hb : ∀ s, ok s = true → ∀ nx' : En → Prop, (∀ s', step s = some s' → nx' (enc s')) → (step s = none → D.nx (enc s)) → RK.wT C c E (enc s) fun k ρ1 => brK k (RK.wSs C E a ⟨nx', D.rt, D.nx, nx'⟩) D.nx ρ1) : whlK C E c a D (enc s0) := by
  refine whl_run (chk ok step) enc h hn fun s ⟨k, hk⟩ nx' h1 h2 => ?_
  cases e : ok s with
  | false =>
    rw [runF_stuck (by unfold chk; rw [if_neg (by rw [e]; exact Bool.false_ne_true)])] at hk
    cases hk
  | true =>
    have ec : chk ok step s = step s := by unfold chk; rw [if_pos e]
    rw [ec] at h1 h2
    exact hb s e nx' h1 h2
/-- the same with what holds while so many turns are left -/
theorem whl_runP {S : Type} {c : Ex} {a : List Sm} (step : S → Option S) (enc : S → En) (P : Nat → S → Prop) {s0 r : S} {N : Nat} (h : runF step N s0 = some r) (h0 : P N s0) (hP : ∀ k s s', P (k + 1) s → step s = some s' → P k s') (hn : D.nx (enc r))
    (hb : ∀ k s, P (k + 1) s → ∀ nx' : En → Prop, (∀ s', step s = some s' → nx' (enc s')) → (step s = none → D.nx (enc s)) → RK.wT C c E (enc s) fun k ρ1 => brK k (RK.wSs C E a ⟨nx', D.rt, D.nx, nx'⟩) D.nx ρ1) : whlK C E c a D (enc s0) := by
  refine whl_inv (fun m ρ => ∃ s, ρ = enc s ∧ runF step m s = some r ∧ P m s) N ⟨s0, rfl, h, h0⟩ ?_
  rintro m ρ ⟨s, rfl, hs, hp⟩
  cases m with
  | zero => cases hs
  | succ m =>
    refine hb m s hp _ (fun s' e => ?_) (fun e => ?_)
    · simp only [runF, e] at hs
      exact ⟨m, Nat.lt_succ_self _, s', rfl, hs, hP _ _ _ hp e⟩
    · simp only [runF, e] at hs
      cases hs; exact hn
/-! ### a list used as a pile: the head is its end -/
def pil {α : Type} (e : α → RK.D) (l : List α) : List RK.D := (l.map e).reverse
theorem pil_nil {α : Type} {e : α → RK.D} : pil e [] = [] := rfl
theorem pil_cons {α : Type} {e : α → RK.D} {a : α} {l : List α} : pil e (a :: l) = pil e l ++ [e a] := by unfold pil; rw [List.map_cons, List.reverse_cons]
theorem pil_len {α : Type} {e : α → RK.D} {l : List α} : (pil e l).length = l.length := by unfold pil; rw [List.length_reverse, List.length_map]
theorem pil_top {α : Type} {e : α → RK.D} {a : α} {l : List α} : (pil e (a :: l))[(pil e (a :: l)).length - 1]? = some (e a) := by
  rw [pil_cons, List.length_append]; simp
theorem pil_drop {α : Type} {e : α → RK.D} {a : α} {l : List α} : (pil e (a :: l)).dropLast = pil e l := by rw [pil_cons, List.dropLast_concat]
theorem pil_emp {α : Type} {e : α → RK.D} {l : List α} : (pil e l).isEmpty = l.isEmpty := by
  cases l with
  | nil => rfl
  | cons a l =>
    have h := pil_len (e := e) (l := a :: l)
    cases h2 : pil e (a :: l) with
    | nil => rw [h2] at h; cases h
    | cons _ _ => rfl
theorem pil_mem {α : Type} {e : α → RK.D} {l : List α} {d : RK.D} (h : d ∈ pil e l) : ∃ a ∈ l, d = e a := by
  unfold pil at h
  rw [List.mem_reverse] at h
  obtain ⟨a, h1, h2⟩ := List.mem_map.mp h
  exact ⟨a, h1, h2.symm⟩
/-- a walk over items that are made of xs, a state that is folded -/
theorem for_fold {S α : Type} {t : Tg} {a : List Sm} (f : S → α → S) (enc : S → En) (P : S → Prop) {xs : List α} {e : α → RK.D} {s0 : S} (h0 : P s0)
    (hb : ∀ s x k, P s → x ∈ xs → (P (f s x) → k (enc (f s x))) → asgT t (.v (e x)) (enc s) fun ρ3 => RK.wSs C E a ⟨k, D.rt, D.nx, k⟩ ρ3) (hP : ∀ s x, P s → x ∈ xs → P (f s x)) (hn : P (xs.foldl f s0) → D.nx (enc (xs.foldl f s0))) : forK C E t a D (xs.map e) (enc s0) := by
  unfold forK
  induction xs generalizing s0 with
  | nil => exact hn h0
  | cons x xs ih =>
    refine hb s0 x _ h0 List.mem_cons_self fun p => ?_
    exact ih p (fun s y k hs hy => hb s y k hs (List.mem_cons_of_mem _ hy)) (fun s y hs hy => hP s y hs (List.mem_cons_of_mem _ hy)) hn
end
/-! ### walks over items that are made of xs -/
theorem lcL_map {α : Type} {e : α → D} (g : α → Option D) {step : D → En → (Option D → En → Prop) → Prop} {Q : List D → En → Prop} {ρ : En} : ∀ {xs : List α} {acc : List D}, (∀ x ∈ xs, ∀ k : Option D → En → Prop, k (g x) ρ → step (e x) ρ k) → acc.length + xs.length ≤ sizeLine → Q (acc ++ xs.filterMap g) ρ → lcL step (xs.map e) acc ρ Q
  | [], acc, _, _, q => by simpa [lcL] using q
  | x :: r, acc, h, l, q => by
    refine h x List.mem_cons_self _ ?_
    have h' : ∀ x ∈ r, ∀ k : Option D → En → Prop, k (g x) ρ → step (e x) ρ k := fun y hy => h y (List.mem_cons_of_mem _ hy)
    simp only [List.length_cons] at l
    cases e1 : g x with
    | none =>
      refine lcL_map g h' (by omega) ?_
      rw [List.filterMap_cons, e1] at q; exact q
    | some y =>
      refine ⟨by omega, lcL_map g h' (by simp only [List.length_append, List.length_cons, List.length_nil]; omega) ?_⟩
      rw [List.filterMap_cons, e1] at q
      simpa using q
section
variable {C : Ct} {E : Xn → En → Prop} {D : DE} {ρ : En} {Q : R → En → Prop}
/-- a comprehension over items e x: g x, or nothing -/
theorem comp_map {α : Type} {xs : List α} {e : α → RK.D} {elt : Ex} {tg : Tg} {ifs : List Ex} {own : List Nat} (g : α → Option RK.D) (hl : xs.length ≤ 16777216) (h : ∀ x ∈ xs, ∀ k : Option RK.D → En → Prop, k (g x) ρ → bodyK C tg ifs elt (e x) (wipeE ρ own) fun o ρ' => k o (backE ρ ρ' own)) (q : Q (.f (xs.filterMap g)) ρ) : compK C elt tg ifs own ρ (xs.map e) Q :=
  lcL_map g h (by rw [List.length_nil, Nat.zero_add]; exact hl) (by simpa using q)
/-- .. without a test -/
theorem comp_all {α : Type} {xs : List α} {e : α → RK.D} {elt : Ex} {tg : Tg} {ifs : List Ex} {own : List Nat} (g : α → RK.D) (hl : xs.length ≤ 16777216) (h : ∀ x ∈ xs, ∀ k : Option RK.D → En → Prop, k (some (g x)) ρ → bodyK C tg ifs elt (e x) (wipeE ρ own) fun o ρ' => k o (backE ρ ρ' own)) (q : Q (.f (xs.map g)) ρ) : compK C elt tg ifs own ρ (xs.map e) Q :=
  comp_map (fun x => some (g x)) hl h (by rw [fm_some]; exact q)
theorem comp_rng {m : Nat} {elt : Ex} {tg : Tg} {ifs : List Ex} {own : List Nat} (g : Nat → RK.D) (hl : m ≤ 16777216) (h : ∀ j, j < m → ∀ k : Option RK.D → En → Prop, k (some (g j)) ρ → bodyK C tg ifs elt (.int (j : Int)) (wipeE ρ own) fun o ρ' => k o (backE ρ ρ' own)) (q : Q (.f ((List.range m).map g)) ρ) : compK C elt tg ifs own ρ ((List.range m).map fun k : Nat => RK.D.int (k : Int)) Q :=
  comp_all (xs := List.range m) (e := fun k : Nat => RK.D.int (k : Int)) g (by rw [List.length_range]; exact hl) (fun j hj => h j (List.mem_range.mp hj)) q
/-- a walk, a state that is folded, what holds after so many items -/
theorem for_foldi {S α : Type} {t : Tg} {a : List Sm} (f : S → α → S) (enc : S → En) (P : Nat → S → Prop) {xs : List α} {e : α → RK.D} {s0 : S} (h0 : P 0 s0)
    (hb : ∀ i s x k, P i s → x ∈ xs → xs[i]? = some x → (P (i + 1) (f s x) → k (enc (f s x))) → asgT t (.v (e x)) (enc s) fun ρ3 => RK.wSs C E a ⟨k, D.rt, D.nx, k⟩ ρ3) (hn : P xs.length (xs.foldl f s0) → D.nx (enc (xs.foldl f s0))) : forK C E t a D (xs.map e) (enc s0) := by
  refine for_inv (fun i ρ => ρ = enc ((xs.take i).foldl f s0) ∧ P i ((xs.take i).foldl f s0)) ⟨rfl, h0⟩ ?_ ?_
  · rintro i d ρ k he ⟨rfl, hp⟩ hk
    rw [List.getElem?_map] at he
    obtain ⟨x, hx, rfl⟩ := Option.map_eq_some_iff.mp he
    have ht : xs.take (i + 1) = xs.take i ++ [x] := by rw [List.take_add_one, hx]; rfl
    refine hb i _ x k hp (List.mem_of_getElem? hx) hx fun p => hk _ ?_
    rw [ht, List.foldl_append]
    exact ⟨rfl, p⟩
  · rintro ρ ⟨rfl, hp⟩
    rw [List.length_map, List.take_length] at hp ⊢
    exact hn hp
/-- over range(m) -/
theorem for_rng {S : Type} {t : Tg} {a : List Sm} {m : Nat} (f : S → Nat → S) (enc : S → En) (P : Nat → S → Prop) {e : Nat → RK.D} {s0 : S} (h0 : P 0 s0)
    (hb : ∀ i s k, P i s → i < m → (P (i + 1) (f s i) → k (enc (f s i))) → asgT t (.v (e i)) (enc s) fun ρ3 => RK.wSs C E a ⟨k, D.rt, D.nx, k⟩ ρ3) (hn : P m ((List.range m).foldl f s0) → D.nx (enc ((List.range m).foldl f s0))) : forK C E t a D ((List.range m).map e) (enc s0) :=
  for_foldi f enc P h0 (fun i s x k hp hx hg hk => by
    obtain ⟨h1, h2⟩ := List.getElem?_eq_some_iff.mp hg
    simp only [List.length_range] at h1
    simp only [List.getElem_range] at h2
    subst h2
    exact hb i s k hp h1 hk) (by rw [List.length_range]; exact hn)
/-- both: what holds, and that it ends -/
theorem whl_runQ {S : Type} {c : Ex} {a : List Sm} (step : S → Option S) (enc : S → En) (P : S → Prop) {s0 r : S} {N : Nat} (h : runF step N s0 = some r) (h0 : P s0) (hP : ∀ s s', P s → step s = some s' → P s') (hn : D.nx (enc r))
    (hb : ∀ s, P s → step s ≠ some s → ∀ nx' : En → Prop, (∀ s', step s = some s' → nx' (enc s')) → (step s = none → D.nx (enc s)) → RK.wT C c E (enc s) fun k ρ1 => brK k (RK.wSs C E a ⟨nx', D.rt, D.nx, nx'⟩) D.nx ρ1) : whlK C E c a D (enc s0) := by
  refine whl_inv (fun m ρ => ∃ s, ρ = enc s ∧ runF step m s = some r ∧ P s) N ⟨s0, rfl, h, h0⟩ ?_
  rintro m ρ ⟨s, rfl, hs, hp⟩
  refine hb s hp (fun z => ?_) _ (fun s' e => ?_) (fun e => ?_)
  · rw [runF_stuck z] at hs; cases hs
  · cases m with
    | zero => cases hs
    | succ m =>
      simp only [runF, e] at hs
      exact ⟨m, Nat.lt_succ_self _, s', rfl, hs, hP _ _ hp e⟩
  · cases m with
    | zero => cases hs
    | succ m =>
      simp only [runF, e] at hs
      cases hs; exact hn
end
theorem atI_nats {l : List Nat} {s : Nat} (h : s < l.length) : atI (nats l) (s : Int) = some (.int ((l.getD s 0 : Nat) : Int)) := by
  refine atI_nat ?_
  unfold nats
  rw [List.getElem?_map, List.getElem?_eq_getElem h, List.getD_eq_getElem?_getD, List.getElem?_eq_getElem h]; rfl
theorem idx_nats {l : List Nat} {s : Nat} {QD : D → Prop} (h : s < l.length) (q : QD (.int ((l.getD s 0 : Nat) : Int))) : idxD (.lst (nats l)) (.int s) QD := ⟨_, atI_nats h, q⟩
theorem idx_natsT {l : List Nat} {s : Nat} {QD : D → Prop} (h : s < l.length) (q : QD (.int ((l.getD s 0 : Nat) : Int))) : idxD (.tup (nats l)) (.int s) QD := ⟨_, atI_nats h, q⟩
theorem atI_natsL {l : List Nat} (h : l ≠ []) : atI (nats l) (-1) = some (.int ((l.getLastD 0 : Nat) : Int)) := by
  have e := (List.dropLast_concat_getLast h).symm
  rw [e]
  unfold nats
  rw [List.map_append]
  refine (atI_last (d := .int (l.getLast h : Nat))).trans ?_
  simp
theorem idx_natsL {l : List Nat} {QD : D → Prop} (h : l ≠ []) (q : QD (.int ((l.getLastD 0 : Nat) : Int))) : idxD (.lst (nats l)) (.int (-1)) QD := ⟨_, atI_natsL h, q⟩
theorem cdivN {n : Nat} (h0 : 0 < n) (h : n < 2 ^ 64) {i : Int} : CDivW i (n : Int) := cdiv (by omega) (by omega)
/-- range(1, n + 1) -/
theorem rng_from (a : Nat) {m : Nat} (j : Int) (h : (j - (a : Int)).toNat = m) : (List.range (j - (a : Int)).toNat).map (fun k : Nat => D.int ((a : Int) + (k : Int))) = (List.range m).map fun k : Nat => D.int ((a + k : Nat) : Int) := by
  rw [h]; exact List.map_congr_left fun k _ => by rw [Int.natCast_add]
end RK
namespace RK
open PySem L2 RK
/-! ## constants of the module: ints, texts, tuples of any depth -/
def cB (K : PySem.W.Frag) : Nat → Value → D → Bool
  | _, .int i _, .int j => decide (i = j)
  | _, .str x _, .str y => decide (x = y)
  | _, .bool a, .bl b => a == b
  | _, .none, .non => true
  | n + 1, .ref a, .tup ds => (match K.lookup a with
    | some ⟨.type c, _, .seq its _, _⟩ => decide (c = "tuple") && decide (its.size ≤ sizeLine) && decide (its.size = ds.length) && (its.toList.zip ds).all fun p => cB K n p.1 p.2
    | _ => false)
  | _, _, _ => false
theorem cB_ok {K : PySem.W.Frag} {fa : Nat → Addr} : ∀ (n : Nat) (u : Value) (d : D), cB K n u d = true → ∃ v, RelV v u ∧ ∀ H, Rep K fa H v d := by
  intro n
  induction n with
  | zero =>
    intro u d h
    cases u <;> cases d <;> simp only [cB, Bool.false_eq_true, decide_eq_true_eq, beq_iff_eq] at h
    · exact ⟨.non, rfl, fun _ => .non⟩
    · subst h; exact ⟨.bl _, rfl, fun _ => .bl _⟩
    · subst h; exact ⟨.int _, ⟨_, rfl⟩, fun _ => .int _⟩
    · subst h; exact ⟨.str _, ⟨_, rfl⟩, fun _ => .str _⟩
  | succ n ih =>
    intro u d h
    cases u <;> cases d <;> simp only [cB, Bool.false_eq_true, decide_eq_true_eq, beq_iff_eq] at h
    · exact ⟨.non, rfl, fun _ => .non⟩
    · subst h; exact ⟨.bl _, rfl, fun _ => .bl _⟩
    · subst h; exact ⟨.int _, ⟨_, rfl⟩, fun _ => .int _⟩
    · subst h; exact ⟨.str _, ⟨_, rfl⟩, fun _ => .str _⟩
    · rename_i a ds
      cases q : K.lookup a with
      | none => rw [q] at h; cases h
      | some o =>
        rw [q] at h
        obtain ⟨oc, od, dt, osl⟩ := o
        cases oc with
        | type c =>
          cases dt with
          | seq its k =>
            simp only [Bool.and_eq_true, decide_eq_true_eq] at h
            obtain ⟨⟨⟨rfl, h2⟩, h3⟩, h4⟩ := h
            have key : ∀ (us : List Value) (ds : List D), us.length = ds.length → ((us.zip ds).all fun p => cB K n p.1 p.2) = true → ∃ vs, Vals vs us ∧ ∀ H, Reps K fa H vs ds := by
              intro us
              induction us with
              | nil =>
                intro ds hl _
                cases ds with
                | nil => exact ⟨[], .nil, fun _ => .nil⟩
                | cons _ _ => cases hl
              | cons u us ihu =>
                intro ds hl ha
                cases ds with
                | nil => cases hl
                | cons d ds =>
                  simp only [List.zip_cons_cons, List.all_cons, Bool.and_eq_true] at ha
                  obtain ⟨v, rv, hv⟩ := ih u d ha.1
                  obtain ⟨vs, rvs, hvs⟩ := ihu ds (by simpa using hl) ha.2
                  exact ⟨v :: vs, .cons rv rvs, fun H => .cons (hv H) (hvs H)⟩
            obtain ⟨vs, rvs, hvs⟩ := key its.toList ds (by rw [Array.length_toList]; exact h3) h4
            refine ⟨.ref a, rfl, fun H => .tup (vs := vs) (.inr ⟨_, its, k, q, rfl, rfl, h2, rvs⟩) (hvs H)⟩
          | _ => cases h
        | _ => cases dt <;> cases h
def exB (cts : List (Str × D)) (K : PySem.W.Frag) : Bool := cts.all fun p => match PySem.W.nsIn K mainGlobals p.1 with
  | some (some v) => cB K 8 v p.2
  | _ => false
abbrev AlE : Type := He.AlD × Bool
def obsEG (n : Nat) (fa : List He.Fa) (fn : List He.DefD) (ex : PySem.W.Frag → Bool) (g : Addr → Option Obj) : AlE := (He.obsD fa fn (He.frG g (He.asD g n)), ex (He.frG g (He.asD g n)))
def hookE (n : Nat) (fa : List He.Fa) (fn : List He.DefD) (ex : PySem.W.Frag → Bool) : PySem.W.Hook where
  α := AlE
  obs := fun s => obsEG n fa fn ex s.heap.get?
  val := fun _ => (He.valD fn, true)
  says := fun _ h => ∃ K : PySem.W.Frag, K.In h ∧ He.SaysD fa fn K ∧ ex K = true
  of := fun _ _ e => ⟨_, He.frG_in, congrArg (fun z : AlE => z.1) e, congrArg (fun z : AlE => z.2) e⟩
  keeps := fun _ _ _ ⟨K, hK, c⟩ k => ⟨K, PySem.W.Frag.In.keeps hK k, c⟩
theorem obsEG_eq {n : Nat} {fa : List He.Fa} {fn : List He.DefD} {ex : PySem.W.Frag → Bool} {g : Addr → Option Obj} {s : Shared} (h : ∀ a, g a = s.heap.get? a) : obsEG n fa fn ex g = (hookE n fa fn ex).obs s := by
  have e : g = s.heap.get? := funext h
  rw [e] <;> rfl
def glE (cts : List (Str × D)) (gis : List (Str × Int)) (x : Str) : Option D := match cts.lookup x with
  | some d => some d
  | none => glOf gis x
theorem md_ofE {fn : Nat → Str} {x0 nx : Nat} {fa : Nat → Addr} {gis : List (Str × Int)} {cts : List (Str × D)} {K : PySem.W.Frag} {h : Heap} {mg : Str → Option Value} {nf : Nat} (M : Md K mg fa (glOf gis) fn nf x0 nx) (cx : exB cts K = true) (X : K.In h) (G : h.Ns mainGlobals mg) : Md K mg fa (glE cts gis) fn nf x0 nx :=
  ⟨M.exs, fun x d hx => by
    unfold glE at hx
    cases e : cts.lookup x with
    | none => rw [e] at hx; exact M.glb x d hx
    | some d' =>
      rw [e] at hx
      obtain rfl : d' = d := Option.some.inj hx
      have := List.all_eq_true.mp cx _ (lookup_in e)
      dsimp only at this
      cases e2 : PySem.W.nsIn K mainGlobals x with
      | none => rw [e2] at this; cases this
      | some o =>
        rw [e2] at this
        cases o with
        | none => cases this
        | some v =>
          obtain ⟨w, rw', hw⟩ := cB_ok (fa := fa) 8 v d' this
          exact ⟨w, v, PySem.W.mg_of X G e2, rw', hw⟩, M.blt, M.at_⟩
end RK
namespace RK
open PySem L2 RK
section
local macro_rules | `(tactic| array_get_dec) => `(tactic| try simp -dsimp only [↓RK.u_nil, ↓RK.u_cons, ↓RK.u_asg, ↓RK.u_par, ↓RK.u_aug, ↓RK.u_agK_i, ↓RK.u_agK_o, ↓RK.u_agI_a, ↓RK.u_agI_s, ↓RK.u_agL, ↓RK.u_sti, ↓RK.u_stiK_ow, ↓RK.u_stK_o, ↓RK.u_stK_i, ↓RK.u_ex, ↓RK.u_ifs, ↓RK.u_whil, ↓RK.u_for, ↓RK.u_forO, ↓RK.u_foK_o, ↓RK.u_itO0, ↓RK.u_itO1, ↓RK.u_ret, ↓RK.u_brk, ↓RK.u_cnt, ↓RK.u_pass, ↓RK.u_rai, ↓RK.u_fg, ↓RK.u_br1, ↓RK.u_br0, ↓RK.u_brE1, ↓RK.u_brE0, ↓RK.u_brT1, ↓RK.u_brT0, ↓RK.u_brF1, ↓RK.u_brF0, ↓RK.u_an1, ↓RK.u_an0, ↓RK.u_or1, ↓RK.u_or0, ↓RK.u_c21, ↓RK.u_c20, ↓RK.u_ts1, ↓RK.u_ts0, ↓RK.u_el1, ↓RK.u_el0, ↓RK.u_v, ↓RK.u_vK_v, ↓RK.u_vK_o, ↓RK.u_vK_i, ↓RK.u_c, ↓RK.u_g, ↓RK.u_gK, ↓RK.u_bin, ↓RK.u_neg, ↓RK.u_ngK, ↓RK.u_cmp, ↓RK.u_cmp2, ↓RK.u_and, ↓RK.u_or, ↓RK.u_not, ↓RK.u_ntK, ↓RK.u_ite, ↓RK.u_tup, ↓RK.u_lst, ↓RK.u_call, ↓RK.u_bi, ↓RK.u_isi, ↓RK.u_isK, ↓RK.u_idx, ↓RK.u_comp, ↓RK.u_slc, ↓RK.u_t_slc, ↓RK.u_izip, ↓RK.u_ienum, ↓RK.u_rev, ↓RK.u_rgv, ↓RK.u_meth, ↓RK.u_rs0, ↓RK.u_rs1, ↓RK.u_tAnd, ↓RK.u_tOr, ↓RK.u_tNot, ↓RK.u_tk, ↓RK.u_t_v, ↓RK.u_t_c, ↓RK.u_t_g, ↓RK.u_t_bin, ↓RK.u_t_cmp, ↓RK.u_t_cmp2, ↓RK.u_t_call, ↓RK.u_t_bi, ↓RK.u_t_isi, ↓RK.u_t_idx, ↓RK.u_t_meth, ↓RK.u_t_comp, ↓RK.u_ts_nil, ↓RK.u_ts_cons, ↓RK.u_ie, ↓RK.u_irng, ↓RK.u_kv, ↓RK.u_kf, ↓RK.u_kb, ↓RK.u_kbK_v, ↓RK.u_kbK_o, ↓RK.u_ks0, ↓RK.u_ks1, ↓RK.u_kBv, ↓RK.u_kBf, ↓RK.u_kBb, ↓RK.u_kBs0, ↓RK.u_kBs1, ↓RK.u_sR0, ↓RK.u_sR1, ↓RK.u_as0, ↓RK.u_as1, ↓RK.u_slv, ↓RK.u_slf, ↓RK.u_tv, ↓RK.u_tf, ↓RK.u_tb, ↓RK.u_tt, ↓RK.u_tl, ↓RK.u_tfl, ↓RK.u_gv, ↓RK.u_gf, ↓RK.u_gb, ↓RK.u_gs1, ↓RK.u_gs2, ↓RK.u_gs3, ↓RK.u_body, ↓RK.u_io_o, ↓RK.u_io_i, ↓RK.v_add_i, ↓RK.v_add_s, ↓RK.v_add_l, ↓RK.v_add_t, ↓RK.v_sub, ↓RK.v_mul, ↓RK.v_mul_l, ↓RK.v_fdiv, ↓RK.v_fdn, ↓RK.v_mod, ↓RK.v_pow, ↓RK.v_lt, ↓RK.v_le, ↓RK.v_gt, ↓RK.v_ge, ↓RK.v_eq_i, ↓RK.v_ne_i, ↓RK.v_eq_b, ↓RK.v_ne_b, ↓RK.v_eq_l, ↓RK.v_eq_t, ↓RK.v_ne_l, ↓RK.v_ne_t, ↓RK.v_eq_s, ↓RK.v_ne_s, ↓RK.v_is_b, ↓RK.v_is_nn, ↓RK.v_is_bn, ↓RK.v_is_in, ↓RK.v_is_sn, ↓RK.v_is_tn, ↓RK.v_is_ln, ↓RK.v_isn_b, ↓RK.v_isn_nn, ↓RK.v_isn_bn, ↓RK.v_isn_in, ↓RK.v_isn_sn, ↓RK.v_isn_tn, ↓RK.v_isn_ln, ↓RK.v_in_l, ↓RK.v_nin_l, ↓RK.v_in_t, ↓RK.v_nin_t, ↓RK.v_len_l, ↓RK.v_len_t, ↓RK.v_len_s, ↓RK.v_abs, ↓RK.v_int_i, ↓RK.v_int_b, ↓RK.v_str_i, ↓RK.v_tup_l, ↓RK.v_tup_t, ↓RK.v_lst_l, ↓RK.v_lst_t, ↓RK.v_lst_s, ↓RK.v_sum, ↓RK.v_sorted, ↓RK.v_sumT, ↓RK.v_sortedT, ↓RK.v_sortT, ↓RK.v_min2, ↓RK.v_max2, ↓RK.v_min, ↓RK.v_max, ↓RK.v_ix0, ↓RK.v_ix1, ↓RK.v_ix2, ↓RK.v_tx0, ↓RK.v_tx1, ↓RK.v_tx2, ↓RK.v_rng1, ↓RK.v_rng2, ↓RK.v_rng3, ↓RK.v_all, ↓RK.v_any, ↓RK.v_str_s, ↓RK.v_slc_l, ↓RK.v_slc_t, ↓RK.v_opt0, ↓RK.v_opt1, ↓RK.v_zip_l, ↓RK.v_zip_t, ↓RK.v_enum_l, ↓RK.v_enum_t, ↓RK.v_mul_t, ↓RK.v_rev, ↓RK.v_rgt1, ↓RK.v_rgl1, ↓RK.v_rgt2, ↓RK.v_rgl2, ↓RK.v_items_l, ↓RK.v_items_t, ↓RK.v_tru_n, ↓RK.v_tru_b, ↓RK.v_tru_i, ↓RK.v_tru_t, ↓RK.v_tru_l, ↓RK.v_isi_non_int, ↓RK.v_isi_non_bool, ↓RK.v_isi_non_tuple, ↓RK.v_isi_non_list, ↓RK.v_isi_non_str, ↓RK.v_isi_bl_int, ↓RK.v_isi_bl_bool, ↓RK.v_isi_bl_tuple, ↓RK.v_isi_bl_list, ↓RK.v_isi_bl_str, ↓RK.v_isi_int_int, ↓RK.v_isi_int_bool, ↓RK.v_isi_int_tuple, ↓RK.v_isi_int_list, ↓RK.v_isi_int_str, ↓RK.v_isi_str_int, ↓RK.v_isi_str_bool, ↓RK.v_isi_str_tuple, ↓RK.v_isi_str_list, ↓RK.v_isi_str_str, ↓RK.v_isi_tup_int, ↓RK.v_isi_tup_bool, ↓RK.v_isi_tup_tuple, ↓RK.v_isi_tup_list, ↓RK.v_isi_tup_str, ↓RK.v_isi_lst_int, ↓RK.v_isi_lst_bool, ↓RK.v_isi_lst_tuple, ↓RK.v_isi_lst_list, ↓RK.v_isi_lst_str, ↓RK.v_nio0, ↓RK.v_nio1, ↓RK.v_fr_no, ↓RK.v_fr_v, ↓RK.v_fr_ow, ↓RK.v_sx0, ↓RK.v_sx1, ↓RK.v_app, ↓RK.v_apK, ↓RK.v_rem, ↓RK.v_rmK, ↓RK.v_pat, ↓RK.v_paK, ↓RK.v_cnt, ↓RK.v_cntD, ↓RK.v_pop, ↓RK.v_poK, RK.isL, RK.Lt.d, List.getElem?_cons_zero, List.getElem?_cons_succ, List.set_cons_zero, List.set_cons_succ, List.map_cons, List.map_nil, RK.fgE, RK.fg1, RK.wipeE, RK.backE, RK.isOwn, List.forall_mem_cons, List.not_mem_nil, false_imp_iff, implies_true, List.length_cons, List.length_nil, Bool.not_true, Bool.not_false, and_true, true_and, ↓reduceIte, RK.intsD, RK.flatD, decide_true, decide_false, Bool.false_eq_true, reduceCtorEq])
/-! ### a number up to most, dead slots forgotten -/
def irNumberF (r : Nat) : List Sm :=
  [(.asg (.n 2) (.c (.int 0))),
   (.fg [false, false, false, true] [true, false, false, true] (.for_ (.n 3) (.rng [(.bin .add (.c (.int 1)) (.call r [(.v 0), (.c (.int 12))]))])
     [(.fg [] [false, false, false, true] (.asg (.n 2) (.bin .add (.bin .mul (.c (.int 1000)) (.v 2)) (.call r [(.v 0), (.c (.int 1000))]))))])),
   (.ret (.bin .mod (.bi .int [(.v 2)]) (.bin .add (.v 1) (.c (.int 1)))))]
theorem wp_numberF {C : Ct} {r : Nat} (hr : C.sp r = spRoll) (hi : C.io r = some 0) (hf : C.fr r = false) (ds : List D) (Qd : D → List D → Prop) (Ed : Xn → Prop) (h : spNumber ds Qd Ed) :
    ds.length = 2 ∧ RK.wSs C (fun x _ => Ed x) (irNumberF r) (deOf true false Qd) (startE 4 true ds) := by
  obtain ⟨c, m, rfl, hc, hm, h⟩ := h
  refine ⟨rfl, ?_⟩
  show RK.wSs C (fun x _ => Ed x) (irNumberF r) (deOf true false Qd) [.io c, .v (.int m), .no, .no]
  unfold irNumberF
  array_get_dec
  simp only [↓u_cio hi]
  array_get_dec
  refine use_roll hr hf hc (by omega) (by omega) fun z c' z0 z1 hc' => ?_
  array_get_dec
  refine ⟨by omega, for_inv (fun _ ρ => ∃ c k, CupOk c ∧ ρ = [.io c, .v (.int m), .v (.int k), .no]) ⟨c', 0, hc', rfl⟩ ?_ ?_⟩
  · rintro i d ρ k hd ⟨c, f, hc, rfl⟩ hk
    array_get_dec
    refine ⟨mulL (by omega) (by omega), ?_⟩
    simp only [↓u_cio hi]
    array_get_dec
    refine use_roll hr hf hc (by omega) (by omega) fun z c' z0 z1 hc' => ?_
    array_get_dec
    exact hk _ ⟨c', _, hc', rfl⟩
  · rintro ρ ⟨c, f, hc, rfl⟩
    array_get_dec
    have p : 0 < m + 1 := by omega
    exact ⟨p, h _ _ (Int.emod_nonneg _ (by omega)) (by have := Int.emod_lt_of_pos f p; omega) hc⟩
end
end RK
namespace RL
open PySem PySem.Spec PyProof.Rows L2 RK
abbrev top (i : Nat) : Stmt := PySem.Challenge.pw_reckonhall_k71_whole_bernoullis_numbers.main.body.getD i (.Pass ⟨0, 0, 0, 0⟩)
/-! 0: fits_whole(value, low, high): 0 value, 1 low, 2 high -/
def s0 : Stmt := top 4
def N0 : List Str := [Str.ofString "value", Str.ofString "low", Str.ofString "high"]
def P0 : List Str := [Str.ofString "value", Str.ofString "low", Str.ofString "high"]
def ir0 : List Sm :=
  [(.ret (.and_ (.isi (.v 0) "int") (.and_ (.not_ (.isi (.v 0) "bool")) (.cmp2 .le .le (.v 1) (.v 0) (.v 2)))))]
/-! 1: need_whole(value, low, high): 0 value, 1 low, 2 high -/
def s1 : Stmt := top 5
def N1 : List Str := [Str.ofString "value", Str.ofString "low", Str.ofString "high"]
def P1 : List Str := [Str.ofString "value", Str.ofString "low", Str.ofString "high"]
def ir1 : List Sm :=
  [(.ifs (.not_ (.call 0 [(.v 0), (.v 1), (.v 2)]))
     [(.rai 26 (Str.ofString "not such a number"))]
     [])]
/-! 2: divisor_in(one, other): 0 one, 1 other -/
def s2 : Stmt := top 6
def N2 : List Str := [Str.ofString "one", Str.ofString "other"]
def P2 : List Str := [Str.ofString "one", Str.ofString "other"]
def ir2 : List Sm :=
  [(.par [0, 1] [(.bi .abs [(.v 0)]), (.bi .abs [(.v 1)])]),
   (.fg [] [false, true] (.whil (.cmp .gt (.v 1) (.c (.int 0)))
     [(.par [0, 1] [(.v 1), (.bin .sub (.v 0) (.bin .mul (.bin .fdiv (.v 0) (.v 1)) (.v 1)))])])),
   (.ret (.v 0))]
/-! 3: power_in(number, times): 0 number, 1 times, 2 found, 3 turn -/
def s3 : Stmt := top 7
def N3 : List Str := [Str.ofString "number", Str.ofString "times", Str.ofString "found", Str.ofString "turn"]
def P3 : List Str := [Str.ofString "number", Str.ofString "times"]
def ir3 : List Sm :=
  [(.asg (.n 2) (.c (.int 1))),
   (.fg [false, false, false, true] [true, true, false, true] (.for_ (.n 3) (.rng [(.v 1)])
     [(.fg [] [false, false, false, true] (.asg (.n 2) (.bin .mul (.v 2) (.v 0))))])),
   (.ret (.v 2))]
/-! 4: choose_row(many): 0 many, 1 found, 2 some -/
def s4 : Stmt := top 12
def N4 : List Str := [Str.ofString "many", Str.ofString "found", Str.ofString "some"]
def P4 : List Str := [Str.ofString "many"]
def ir4 : List Sm :=
  [(.asg (.n 1) (.lst [(.c (.int 1))])),
   (.fg [false, false, true] [true, false, true] (.for_ (.n 2) (.rng [(.v 0)])
     [(.fg [] [false, false, true] (.ex (.meth .append (.v 1) [(.bin .fdiv (.bin .mul (.idx (.v 1) (.neg (.c (.int 1)))) (.bin .sub (.v 0) (.v 2))) (.bin .add (.v 2) (.c (.int 1))))])))])),
   (.ret (.v 1))]
/-! 5: share(above, below): 0 above, 1 below, 2 common -/
def s5 : Stmt := top 13
def N5 : List Str := [Str.ofString "above", Str.ofString "below", Str.ofString "common"]
def P5 : List Str := [Str.ofString "above", Str.ofString "below"]
def ir5 : List Sm :=
  [(.asg (.n 2) (.bin .mul (.call 2 [(.v 0), (.v 1)]) (.ite (.cmp .gt (.v 1) (.c (.int 0))) (.c (.int 1)) (.neg (.c (.int 1)))))),
   (.ret (.tup [(.bin .fdiv (.v 0) (.v 2)), (.bin .fdiv (.v 1) (.v 2))]))]
/-! 6: bernoulli_in(many): 0 many, 1 found, 2 place, 3 row, 4 total, 5 at, 6 one -/
def s6 : Stmt := top 14
def N6 : List Str := [Str.ofString "many", Str.ofString "found", Str.ofString "place", Str.ofString "row", Str.ofString "total", Str.ofString "at", Str.ofString "one"]
def P6 : List Str := [Str.ofString "many"]
def ir6 : List Sm :=
  [(.asg (.n 1) (.lst [(.tup [(.c (.int 1)), (.c (.int 1))])])),
   (.fg [false, false, true, true, true, true, true] [true, false, true, true, true, true, true] (.for_ (.n 2) (.rng [(.c (.int 1)), (.bin .add (.v 0) (.c (.int 1)))])
     [(.par [3, 4] [(.call 4 [(.bin .add (.v 2) (.c (.int 1)))]), (.tup [(.c (.int 0)), (.c (.int 1))])]),
      (.fg [false, false, false, false, false, true, true] [false, false, false, true, false, true, true] (.forO (.t [5, 6]) true 1
        [(.fg [] [false, false, false, false, false, true, true] (.asg (.n 4) (.call 5 [(.bin .add (.bin .mul (.idx (.v 4) (.c (.int 0))) (.idx (.v 6) (.c (.int 1)))) (.bin .mul (.bin .mul (.idx (.v 3) (.v 5)) (.idx (.v 6) (.c (.int 0)))) (.idx (.v 4) (.c (.int 1))))), (.bin .mul (.idx (.v 4) (.c (.int 1))) (.idx (.v 6) (.c (.int 1))))])))])),
      (.fg [] [false, false, true, true, true, true, true] (.ex (.meth .append (.v 1) [(.call 5 [(.neg (.idx (.v 4) (.c (.int 0)))), (.bin .mul (.idx (.v 4) (.c (.int 1))) (.bin .add (.v 2) (.c (.int 1))))])])))])),
   (.ret (.v 1))]
/-! 7: bernoulli(place): 0 place -/
def s7 : Stmt := top 15
def N7 : List Str := [Str.ofString "place"]
def P7 : List Str := [Str.ofString "place"]
def ir7 : List Sm :=
  [(.ex (.call 1 [(.v 0), (.c (.int 0)), (.g (Str.ofString "BERNOULLI"))])),
   (.ret (.idx (.call 6 [(.v 0)]) (.v 0)))]
/-! 8: far_factors(number): 0 number, 1 found, 2 prime, 3 many -/
def s8 : Stmt := top 17
def N8 : List Str := [Str.ofString "number", Str.ofString "found", Str.ofString "prime", Str.ofString "many"]
def P8 : List Str := [Str.ofString "number"]
def ir8 : List Sm :=
  [(.asg (.n 1) (.lst [])),
   (.fg [false, false, true, true] [true, false, true, true] (.for_ (.n 2) (.rng [(.c (.int 2)), (.bin .add (.g (Str.ofString "BERNOULLI")) (.c (.int 2)))])
     [(.asg (.n 3) (.c (.int 0))),
      (.whil (.cmp .eq (.bin .mul (.bin .fdiv (.v 0) (.v 2)) (.v 2)) (.v 0))
        [(.par [0, 3] [(.bin .fdiv (.v 0) (.v 2)), (.bin .add (.v 3) (.c (.int 1)))])]),
      (.fg [] [false, false, true, true] (.aug 1 .add (.ite (.cmp .gt (.v 3) (.c (.int 0))) (.lst [(.tup [(.v 2), (.v 3)])]) (.lst []))))])),
   (.ret (.v 1))]
/-! 9: primes_below(place): 0 place, 1 prime, 2 power -/
def s9 : Stmt := top 16
def N9 : List Str := [Str.ofString "place", Str.ofString "prime", Str.ofString "power"]
def P9 : List Str := [Str.ofString "place"]
def ir9 : List Sm :=
  [(.ex (.call 1 [(.v 0), (.c (.int 0)), (.g (Str.ofString "BERNOULLI"))])),
   (.ret (.bi .tuple [(.comp (.v 1) (.t [1, 2]) (.e (.call 8 [(.idx (.idx (.call 6 [(.v 0)]) (.v 0)) (.c (.int 1)))])) [] [(Str.ofString "prime", 1), (Str.ofString "power", 2)])]))]
/-! 10: sum_by_bernoulli(power, many): 0 power, 1 many, 2 row, 3 numbers, 4 total, 5 at, 6 one, 7 above -/
def s10 : Stmt := top 18
def N10 : List Str := [Str.ofString "power", Str.ofString "many", Str.ofString "row", Str.ofString "numbers", Str.ofString "total", Str.ofString "at", Str.ofString "one", Str.ofString "above"]
def P10 : List Str := [Str.ofString "power", Str.ofString "many"]
def ir10 : List Sm :=
  [(.ex (.call 1 [(.v 0), (.c (.int 0)), (.g (Str.ofString "FORM"))])),
   (.ex (.call 1 [(.v 1), (.c (.int 0)), (.g (Str.ofString "GREAT"))])),
   (.par [2, 3, 4] [(.call 4 [(.bin .add (.v 0) (.c (.int 1)))]), (.call 6 [(.v 0)]), (.tup [(.c (.int 0)), (.c (.int 1))])]),
   (.fg [false, false, false, false, false, true, true, true] [false, true, true, true, false, true, true, true] (.for_ (.t [5, 6]) (.enum (.v 3))
     [(.asg (.n 7) (.bin .mul (.bin .mul (.ite (.cmp .eq (.v 5) (.c (.int 1))) (.neg (.idx (.v 6) (.c (.int 0)))) (.idx (.v 6) (.c (.int 0)))) (.idx (.v 2) (.v 5))) (.call 3 [(.v 1), (.bin .sub (.bin .add (.v 0) (.c (.int 1))) (.v 5))]))),
      (.fg [] [false, false, false, false, false, true, true, true] (.asg (.n 4) (.call 5 [(.bin .add (.bin .mul (.idx (.v 4) (.c (.int 0))) (.idx (.v 6) (.c (.int 1)))) (.bin .mul (.v 7) (.idx (.v 4) (.c (.int 1))))), (.bin .mul (.idx (.v 4) (.c (.int 1))) (.idx (.v 6) (.c (.int 1))))])))])),
   (.ret (.bin .fdiv (.idx (.v 4) (.c (.int 0))) (.bin .mul (.idx (.v 4) (.c (.int 1))) (.bin .add (.v 0) (.c (.int 1))))))]
/-! 11: differences_in(row): 0 row, 1 one, 2 other -/
def s11 : Stmt := top 22
def N11 : List Str := [Str.ofString "row", Str.ofString "one", Str.ofString "other"]
def P11 : List Str := [Str.ofString "row"]
def ir11 : List Sm :=
  [(.ret (.comp (.bin .sub (.v 2) (.v 1)) (.t [1, 2]) (.zip (.v 0) (.slc (.v 0) [(.c (.int 1))] [])) [] [(Str.ofString "one", 1), (Str.ofString "other", 2)]))]
/-! 12: leads_in(row): 0 row, 1 found, 2 here -/
def s12 : Stmt := top 23
def N12 : List Str := [Str.ofString "row", Str.ofString "found", Str.ofString "here"]
def P12 : List Str := [Str.ofString "row"]
def ir12 : List Sm :=
  [(.par [1, 2] [(.lst []), (.bi .list [(.v 0)])]),
   (.fg [true] [true, false, true] (.whil (.cmp .ne (.v 2) (.lst []))
     [(.ex (.meth .append (.v 1) [(.idx (.v 2) (.c (.int 0)))])),
      (.asg (.n 2) (.call 11 [(.v 2)]))])),
   (.ret (.v 1))]
/-! 13: choose_in(number, many): 0 number, 1 many, 2 found, 3 turn -/
def s13 : Stmt := top 24
def N13 : List Str := [Str.ofString "number", Str.ofString "many", Str.ofString "found", Str.ofString "turn"]
def P13 : List Str := [Str.ofString "number", Str.ofString "many"]
def ir13 : List Sm :=
  [(.asg (.n 2) (.c (.int 1))),
   (.fg [false, false, false, true] [true, true, false, true] (.for_ (.n 3) (.rng [(.v 1)])
     [(.fg [] [false, false, false, true] (.asg (.n 2) (.bin .fdiv (.bin .mul (.v 2) (.bin .sub (.v 0) (.v 3))) (.bin .add (.v 3) (.c (.int 1))))))])),
   (.ret (.v 2))]
/-! 14: value_in(leads, number): 0 leads, 1 number, 2 at, 3 lead -/
def s14 : Stmt := top 25
def N14 : List Str := [Str.ofString "leads", Str.ofString "number", Str.ofString "at", Str.ofString "lead"]
def P14 : List Str := [Str.ofString "leads", Str.ofString "number"]
def ir14 : List Sm :=
  [(.ret (.bi .sum [(.comp (.bin .mul (.v 3) (.call 13 [(.v 1), (.v 2)])) (.t [2, 3]) (.enum (.v 0)) [] [(Str.ofString "at", 2), (Str.ofString "lead", 3)])]))]
/-! 15: power_of(number, power): 0 number, 1 power, 2 found, 3 turn -/
def s15 : Stmt := top 27
def N15 : List Str := [Str.ofString "number", Str.ofString "power", Str.ofString "found", Str.ofString "turn"]
def P15 : List Str := [Str.ofString "number", Str.ofString "power"]
def ir15 : List Sm :=
  [(.asg (.n 2) (.c (.int 1))),
   (.fg [false, false, false, true] [true, true, false, true] (.for_ (.n 3) (.rng [(.v 1)])
     [(.fg [] [false, false, false, true] (.asg (.n 2) (.bin .mul (.v 2) (.v 0))))])),
   (.ret (.v 2))]
/-! 16: power_leads(power): 0 power, 1 number -/
def s16 : Stmt := top 26
def N16 : List Str := [Str.ofString "power", Str.ofString "number"]
def P16 : List Str := [Str.ofString "power"]
def ir16 : List Sm :=
  [(.ret (.call 12 [(.comp (.call 15 [(.v 1), (.v 0)]) (.n 1) (.rng [(.bin .add (.v 0) (.c (.int 1)))]) [] [(Str.ofString "number", 1)])]))]
/-! 17: power_sum(power, many): 0 power, 1 many, 2 form -/
def s17 : Stmt := top 28
def N17 : List Str := [Str.ofString "power", Str.ofString "many", Str.ofString "form"]
def P17 : List Str := [Str.ofString "power", Str.ofString "many"]
def ir17 : List Sm :=
  [(.ex (.call 1 [(.v 0), (.c (.int 0)), (.g (Str.ofString "POWER"))])),
   (.ex (.call 1 [(.v 1), (.c (.int 0)), (.g (Str.ofString "MANY"))])),
   (.asg (.n 2) (.bin .add (.lst [(.c (.int 0))]) (.call 16 [(.v 0)]))),
   (.ret (.bin .sub (.call 14 [(.v 2), (.bin .add (.v 1) (.c (.int 1)))]) (.ite (.cmp .eq (.v 0) (.c (.int 0))) (.c (.int 1)) (.c (.int 0)))))]
/-! 18: _law_cup(script): 0 script, 1 cell -/
def s18 : Stmt := top 30
def N18 : List Str := [Str.ofString "script", Str.ofString "cell"]
def P18 : List Str := [Str.ofString "script"]
def ir18 : List Sm :=
  [(.asg (.n 1) (.bi .abs [(.idx (.bin .add (.bi .list [(.v 0)]) (.lst [(.c (.int 0))])) (.c (.int 0)))])),
   (.ret (.lst [(.ite (.cmp .ge (.v 1) (.bin .pow (.c (.int 10)) (.c (.int 18)))) (.bin .fdiv (.v 1) (.c (.int 257))) (.c (.int 0))), (.bin .add (.bin .mod (.bi .int [(.bin .add (.bin .mul (.v 1) (.c (.int 2377))) (.c (.int 4243)))]) (.c (.int 2041012991))) (.c (.int 1117)))]))]
/-! 19: _law_roll(cup, many): 0 cup, 1 many, 2 deep, 3 found -/
def s19 : Stmt := top 31
def N19 : List Str := [Str.ofString "cup", Str.ofString "many", Str.ofString "deep", Str.ofString "found"]
def P19 : List Str := [Str.ofString "cup", Str.ofString "many"]
def ir19 : List Sm :=
  [(.ifs (.cmp .gt (.idx (.v 0) (.c (.int 0))) (.c (.int 0)))
     [(.asg (.n 3) (.bin .mod (.bi .int [(.idx (.v 0) (.c (.int 0)))]) (.v 1))),
      (.sti (.v 0) (.c (.int 0)) (.bin .fdiv (.idx (.v 0) (.c (.int 0))) (.v 1))),
      (.ret (.v 3))]
     []),
   (.sti (.v 0) (.c (.int 1)) (.bin .mod (.bi .int [(.bin .add (.bin .mul (.idx (.v 0) (.c (.int 1))) (.c (.int 35049))) (.c (.int 5807)))]) (.c (.int 2147483423)))),
   (.asg (.n 2) (.bin .mod (.bi .int [(.bin .mul (.idx (.v 0) (.c (.int 1))) (.bin .add (.idx (.v 0) (.c (.int 1))) (.c (.int 3011))))]) (.c (.int 2147483587)))),
   (.ret (.bin .mod (.bi .int [(.bin .fdiv (.v 2) (.c (.int 613)))]) (.v 1)))]
/-! 20: _law_same(told, due): 0 told, 1 due, 2 at -/
def s20 : Stmt := top 32
def N20 : List Str := [Str.ofString "told", Str.ofString "due", Str.ofString "at"]
def P20 : List Str := [Str.ofString "told", Str.ofString "due"]
def ir20 : List Sm :=
  [(.ifs (.or_ (.isi (.v 1) "tuple") (.isi (.v 1) "list"))
     [(.ifs (.or_ (.cmp .ne (.isi (.v 0) "tuple") (.isi (.v 1) "tuple")) (.or_ (.cmp .ne (.isi (.v 0) "list") (.isi (.v 1) "list")) (.cmp .ne (.bi .len [(.v 0)]) (.bi .len [(.v 1)]))))
        [(.ret (.c (.bl false)))]
        []),
      (.ret (.cmp .eq (.comp (.c (.int 1)) (.n 2) (.rng [(.bi .len [(.v 1)])]) [(.not_ (.call 20 [(.idx (.v 0) (.v 2)), (.idx (.v 1) (.v 2))]))] [(Str.ofString "at", 2)]) (.lst [])))]
     []),
   (.ifs (.cmp .is_ (.v 1) (.c .non))
     [(.ret (.cmp .is_ (.v 0) (.c .non)))]
     []),
   (.ifs (.isi (.v 1) "bool")
     [(.ret (.ite (.v 1) (.cmp .is_ (.v 0) (.c (.bl true))) (.cmp .is_ (.v 0) (.c (.bl false)))))]
     []),
   (.ifs (.isi (.v 1) "int")
     [(.ret (.and_ (.isi (.v 0) "int") (.and_ (.not_ (.isi (.v 0) "bool")) (.cmp .eq (.bi .int [(.v 0)]) (.v 1)))))]
     []),
   (.ret (.and_ (.isi (.v 0) "str") (.cmp .eq (.bi .str [(.v 0)]) (.v 1))))]
/-! 21: _law_divisor(one, other): 0 one, 1 other -/
def s21 : Stmt := top 33
def N21 : List Str := [Str.ofString "one", Str.ofString "other"]
def P21 : List Str := [Str.ofString "one", Str.ofString "other"]
def ir21 : List Sm :=
  [(.par [0, 1] [(.bi .max [(.v 0), (.neg (.v 0))]), (.bi .max [(.v 1), (.neg (.v 1))])]),
   (.fg [] [false, true] (.whil (.cmp .gt (.v 1) (.c (.int 0)))
     [(.par [0, 1] [(.v 1), (.bin .mod (.bi .int [(.v 0)]) (.v 1))])])),
   (.ret (.v 0))]
/-! 22: _law_factors(number): 0 number, 1 found, 2 left, 3 prime, 4 power -/
def s22 : Stmt := top 34
def N22 : List Str := [Str.ofString "number", Str.ofString "found", Str.ofString "left", Str.ofString "prime", Str.ofString "power"]
def P22 : List Str := [Str.ofString "number"]
def ir22 : List Sm :=
  [(.par [1, 2, 3] [(.lst []), (.v 0), (.c (.int 2))]),
   (.fg [true, false, false, false, true] [true, false, true, true, true] (.whil (.cmp .gt (.v 2) (.c (.int 1)))
     [(.ifs (.cmp .gt (.bin .mul (.v 3) (.v 3)) (.v 2))
        [(.asg (.n 3) (.v 2))]
        []),
      (.asg (.n 4) (.c (.int 0))),
      (.fg [true] [true] (.whil (.cmp .eq (.bin .mod (.bi .int [(.v 2)]) (.v 3)) (.c (.int 0)))
        [(.par [2, 4] [(.bi .int [(.bin .fdiv (.v 2) (.v 3))]), (.bin .add (.v 4) (.c (.int 1)))])])),
      (.asg (.n 1) (.bin .add (.v 1) (.ite (.cmp .gt (.v 4) (.c (.int 0))) (.lst [(.tup [(.v 3), (.v 4)])]) (.lst [])))),
      (.fg [] [false, false, false, false, true] (.asg (.n 3) (.bin .add (.v 3) (.c (.int 1)))))])),
   (.ret (.bi .tuple [(.v 1)]))]
/-! 23: _law_power(number, times): 0 number, 1 times, 2 found, 3 turn -/
def s23 : Stmt := top 35
def N23 : List Str := [Str.ofString "number", Str.ofString "times", Str.ofString "found", Str.ofString "turn"]
def P23 : List Str := [Str.ofString "number", Str.ofString "times"]
def ir23 : List Sm :=
  [(.asg (.n 2) (.c (.int 1))),
   (.fg [false, false, false, true] [true, true, false, true] (.for_ (.n 3) (.rng [(.v 1)])
     [(.fg [] [false, false, false, true] (.asg (.n 2) (.bin .mul (.v 2) (.v 0))))])),
   (.ret (.v 2))]
/-! 24: law(script): 0 script, 1 cup, 2 place, 3 total, 4 many, 5 at, 6 even, 7 above, 8 below, 9 due, 10 product, 11 prime, 12 odd, 13 power, 14 number, 15 far, 16 told, 17 one -/
def s24 : Stmt := top 36
def N24 : List Str := [Str.ofString "script", Str.ofString "cup", Str.ofString "place", Str.ofString "total", Str.ofString "many", Str.ofString "at", Str.ofString "even", Str.ofString "above", Str.ofString "below", Str.ofString "due", Str.ofString "product", Str.ofString "prime", Str.ofString "odd", Str.ofString "power", Str.ofString "number", Str.ofString "far", Str.ofString "told", Str.ofString "one"]
def P24 : List Str := [Str.ofString "script"]
def ir24 : List Sm :=
  [(.asg (.n 1) (.call 18 [(.v 0)])),
   (.par [2, 3] [(.bin .add (.c (.int 1)) (.call 19 [(.v 1), (.c (.int 60))])), (.tup [(.c (.int 0)), (.c (.int 1))])]),
   (.asg (.n 4) (.c (.int 1))),
   (.fg [true, false, false, false, false, true, true, true, true, true, true, true, true, true, true, true, true] [true, false, true, false, true, true, true, true, true, true, true, true, true, true, true, true, true] (.for_ (.n 5) (.rng [(.bin .add (.v 2) (.c (.int 1)))])
     [(.asg (.t [7, 8]) (.call 7 [(.v 5)])),
      (.ifs (.or_ (.cmp .lt (.v 8) (.c (.int 1))) (.cmp .ne (.call 21 [(.v 7), (.v 8)]) (.c (.int 1))))
        [(.ret (.c (.bl false)))]
        []),
      (.asg (.n 3) (.tup [(.bin .add (.bin .mul (.idx (.v 3) (.c (.int 0))) (.v 8)) (.bin .mul (.bin .mul (.v 4) (.v 7)) (.idx (.v 3) (.c (.int 1))))), (.bin .mul (.idx (.v 3) (.c (.int 1))) (.v 8))])),
      (.fg [] [false, false, false, false, false, true, false, true, true] (.asg (.n 4) (.bi .int [(.bin .fdiv (.bin .mul (.v 4) (.bin .sub (.bin .add (.v 2) (.c (.int 1))) (.v 5))) (.bin .add (.v 5) (.c (.int 1))))])))])),
   (.ifs (.or_ (.cmp .ne (.idx (.v 3) (.c (.int 0))) (.c (.int 0))) (.not_ (.call 20 [(.call 7 [(.c (.int 0))]), (.tup [(.c (.int 1)), (.c (.int 1))])])))
     [(.ret (.c (.bl false)))]
     []),
   (.asg (.n 6) (.bin .add (.c (.int 2)) (.bin .mul (.c (.int 2)) (.call 19 [(.v 1), (.c (.int 30))])))),
   (.asg (.t [7, 8]) (.call 7 [(.v 6)])),
   (.asg (.n 9) (.comp (.v 11) (.n 11) (.rng [(.c (.int 2)), (.bin .add (.v 6) (.c (.int 2)))]) [(.and_ (.cmp .eq (.call 22 [(.v 11)]) (.tup [(.tup [(.v 11), (.c (.int 1))])])) (.cmp .eq (.bin .mod (.bi .int [(.v 6)]) (.bin .sub (.v 11) (.c (.int 1)))) (.c (.int 0))))] [(Str.ofString "prime", 11)])),
   (.asg (.n 10) (.c (.int 1))),
   (.fg [true, false, true, true, true, true, false, false, false, false, false, true, true, true, true, true, true] [true, false, true, true, true, true, false, false, false, false, false, true, true, true, true, true, true] (.for_ (.n 11) (.e (.v 9))
     [(.fg [] [false, false, false, false, false, false, false, false, false, false, false, true] (.par [7, 8, 10] [(.bin .add (.bin .mul (.v 7) (.v 11)) (.v 8)), (.bin .mul (.v 8) (.v 11)), (.bin .mul (.v 10) (.v 11))]))])),
   (.ifs (.or_ (.not_ (.call 20 [(.call 9 [(.v 6)]), (.bi .tuple [(.v 9)])])) (.or_ (.cmp .ne (.idx (.call 7 [(.v 6)]) (.c (.int 1))) (.v 10)) (.cmp .ne (.bin .mod (.bi .int [(.v 7)]) (.v 8)) (.c (.int 0)))))
     [(.ret (.c (.bl false)))]
     []),
   (.asg (.n 12) (.bin .add (.c (.int 3)) (.bin .mul (.c (.int 2)) (.call 19 [(.v 1), (.c (.int 29))])))),
   (.ifs (.not_ (.call 20 [(.lst [(.call 7 [(.v 12)]), (.call 9 [(.v 12)])]), (.lst [(.tup [(.c (.int 0)), (.c (.int 1))]), (.tup [])])]))
     [(.ret (.c (.bl false)))]
     []),
   (.par [13, 14] [(.call 19 [(.v 1), (.c (.int 21))]), (.call 19 [(.v 1), (.c (.int 40))])]),
   (.asg (.n 9) (.bi .sum [(.comp (.call 23 [(.v 17), (.v 13)]) (.n 17) (.rng [(.c (.int 1)), (.bin .add (.v 14) (.c (.int 1)))]) [] [(Str.ofString "one", 17)])])),
   (.ifs (.not_ (.call 20 [(.call 10 [(.v 13), (.v 14)]), (.v 9)]))
     [(.ret (.c (.bl false)))]
     []),
   (.asg (.n 15) (.call 19 [(.v 1), (.bin .pow (.c (.int 10)) (.c (.int 9)))])),
   (.ifs (.cmp .ne (.call 10 [(.v 13), (.v 15)]) (.call 17 [(.v 13), (.v 15)]))
     [(.ret (.c (.bl false)))]
     []),
   (.asg (.n 16) (.lst [(.call 7 [(.c (.int 1))]), (.call 7 [(.c (.int 2))]), (.call 7 [(.c (.int 20))]), (.call 9 [(.c (.int 60))]), (.idx (.call 7 [(.c (.int 60))]) (.c (.int 1)))])),
   (.ret (.call 20 [(.v 16), (.lst [(.tup [(.neg (.c (.int 1))), (.c (.int 2))]), (.tup [(.c (.int 1)), (.c (.int 6))]), (.tup [(.neg (.c (.int 174611))), (.c (.int 330))]), (.tup [(.c (.int 2)), (.c (.int 3)), (.c (.int 5)), (.c (.int 7)), (.c (.int 11)), (.c (.int 13)), (.c (.int 31)), (.c (.int 61))]), (.c (.int 56786730))])]))]
def fnS : Nat → Str
  | 0 => Str.ofString "fits_whole"
  | 1 => Str.ofString "need_whole"
  | 2 => Str.ofString "divisor_in"
  | 3 => Str.ofString "power_in"
  | 4 => Str.ofString "choose_row"
  | 5 => Str.ofString "share"
  | 6 => Str.ofString "bernoulli_in"
  | 7 => Str.ofString "bernoulli"
  | 8 => Str.ofString "far_factors"
  | 9 => Str.ofString "primes_below"
  | 10 => Str.ofString "sum_by_bernoulli"
  | 11 => Str.ofString "differences_in"
  | 12 => Str.ofString "leads_in"
  | 13 => Str.ofString "choose_in"
  | 14 => Str.ofString "value_in"
  | 15 => Str.ofString "power_of"
  | 16 => Str.ofString "power_leads"
  | 17 => Str.ofString "power_sum"
  | 18 => Str.ofString "_law_cup"
  | 19 => Str.ofString "_law_roll"
  | 20 => Str.ofString "_law_same"
  | 21 => Str.ofString "_law_divisor"
  | 22 => Str.ofString "_law_factors"
  | 23 => Str.ofString "_law_power"
  | 24 => Str.ofString "law"
  | 25 => Str.ofString "NumberError"
  | 26 => Str.ofString "InvalidNumber"
  | _ => Str.ofString ""
abbrev loose0 : List Str := [Str.ofString "NumberError", Str.ofString "InvalidNumber", Str.ofString "BERNOULLI", Str.ofString "FORM", Str.ofString "GREAT", Str.ofString "POWER", Str.ofString "MANY", Str.ofString "fits_whole", Str.ofString "need_whole", Str.ofString "divisor_in", Str.ofString "power_in", Str.ofString "choose_row", Str.ofString "share", Str.ofString "bernoulli_in", Str.ofString "bernoulli", Str.ofString "far_factors", Str.ofString "primes_below", Str.ofString "sum_by_bernoulli", Str.ofString "differences_in", Str.ofString "leads_in", Str.ofString "choose_in", Str.ofString "value_in", Str.ofString "power_of", Str.ofString "power_leads", Str.ofString "power_sum", Str.ofString "_law_cup", Str.ofString "_law_roll", Str.ofString "_law_same", Str.ofString "_law_divisor", Str.ofString "_law_factors", Str.ofString "_law_power"]
abbrev lawAt : Nat := 36
abbrev nf : Nat := 25
abbrev nx : Nat := 27
def glI : List (Str × Int) := [(Str.ofString "BERNOULLI", 60), (Str.ofString "FORM", 20), (Str.ofString "GREAT", 1000000000000), (Str.ofString "POWER", 20), (Str.ofString "MANY", 1000000000)]
def gl : Str → Option D := glOf glI
def fas : List He.Fa := fasOf fnS nf nx glI
def d0 : He.DefD := ⟨(Str.ofString "fits_whole", none), Str.ofString "fits_whole", Str.ofString "fits_whole", defArgs s0, defBody s0, defScope s0, [], []⟩
def d1 : He.DefD := ⟨(Str.ofString "need_whole", none), Str.ofString "need_whole", Str.ofString "need_whole", defArgs s1, defBody s1, defScope s1, [], []⟩
def d2 : He.DefD := ⟨(Str.ofString "divisor_in", none), Str.ofString "divisor_in", Str.ofString "divisor_in", defArgs s2, defBody s2, defScope s2, [], []⟩
def d3 : He.DefD := ⟨(Str.ofString "power_in", none), Str.ofString "power_in", Str.ofString "power_in", defArgs s3, defBody s3, defScope s3, [], []⟩
def d4 : He.DefD := ⟨(Str.ofString "choose_row", none), Str.ofString "choose_row", Str.ofString "choose_row", defArgs s4, defBody s4, defScope s4, [], []⟩
def d5 : He.DefD := ⟨(Str.ofString "share", none), Str.ofString "share", Str.ofString "share", defArgs s5, defBody s5, defScope s5, [], []⟩
def d6 : He.DefD := ⟨(Str.ofString "bernoulli_in", none), Str.ofString "bernoulli_in", Str.ofString "bernoulli_in", defArgs s6, defBody s6, defScope s6, [], []⟩
def d7 : He.DefD := ⟨(Str.ofString "bernoulli", none), Str.ofString "bernoulli", Str.ofString "bernoulli", defArgs s7, defBody s7, defScope s7, [], []⟩
def d8 : He.DefD := ⟨(Str.ofString "far_factors", none), Str.ofString "far_factors", Str.ofString "far_factors", defArgs s8, defBody s8, defScope s8, [], []⟩
def d9 : He.DefD := ⟨(Str.ofString "primes_below", none), Str.ofString "primes_below", Str.ofString "primes_below", defArgs s9, defBody s9, defScope s9, [], []⟩
def d10 : He.DefD := ⟨(Str.ofString "sum_by_bernoulli", none), Str.ofString "sum_by_bernoulli", Str.ofString "sum_by_bernoulli", defArgs s10, defBody s10, defScope s10, [], []⟩
def d11 : He.DefD := ⟨(Str.ofString "differences_in", none), Str.ofString "differences_in", Str.ofString "differences_in", defArgs s11, defBody s11, defScope s11, [], []⟩
def d12 : He.DefD := ⟨(Str.ofString "leads_in", none), Str.ofString "leads_in", Str.ofString "leads_in", defArgs s12, defBody s12, defScope s12, [], []⟩
def d13 : He.DefD := ⟨(Str.ofString "choose_in", none), Str.ofString "choose_in", Str.ofString "choose_in", defArgs s13, defBody s13, defScope s13, [], []⟩
def d14 : He.DefD := ⟨(Str.ofString "value_in", none), Str.ofString "value_in", Str.ofString "value_in", defArgs s14, defBody s14, defScope s14, [], []⟩
def d15 : He.DefD := ⟨(Str.ofString "power_of", none), Str.ofString "power_of", Str.ofString "power_of", defArgs s15, defBody s15, defScope s15, [], []⟩
def d16 : He.DefD := ⟨(Str.ofString "power_leads", none), Str.ofString "power_leads", Str.ofString "power_leads", defArgs s16, defBody s16, defScope s16, [], []⟩
def d17 : He.DefD := ⟨(Str.ofString "power_sum", none), Str.ofString "power_sum", Str.ofString "power_sum", defArgs s17, defBody s17, defScope s17, [], []⟩
def d18 : He.DefD := ⟨(Str.ofString "_law_cup", none), Str.ofString "_law_cup", Str.ofString "_law_cup", defArgs s18, defBody s18, defScope s18, [], []⟩
def d19 : He.DefD := ⟨(Str.ofString "_law_roll", none), Str.ofString "_law_roll", Str.ofString "_law_roll", defArgs s19, defBody s19, defScope s19, [], []⟩
def d20 : He.DefD := ⟨(Str.ofString "_law_same", none), Str.ofString "_law_same", Str.ofString "_law_same", defArgs s20, defBody s20, defScope s20, [], []⟩
def d21 : He.DefD := ⟨(Str.ofString "_law_divisor", none), Str.ofString "_law_divisor", Str.ofString "_law_divisor", defArgs s21, defBody s21, defScope s21, [], []⟩
def d22 : He.DefD := ⟨(Str.ofString "_law_factors", none), Str.ofString "_law_factors", Str.ofString "_law_factors", defArgs s22, defBody s22, defScope s22, [], []⟩
def d23 : He.DefD := ⟨(Str.ofString "_law_power", none), Str.ofString "_law_power", Str.ofString "_law_power", defArgs s23, defBody s23, defScope s23, [], []⟩
def d24 : He.DefD := ⟨(Str.ofString "law", none), Str.ofString "law", Str.ofString "law", defArgs s24, defBody s24, defScope s24, [], []⟩
def dfs : List He.DefD := [d0, d1, d2, d3, d4, d5, d6, d7, d8, d9, d10, d11, d12, d13, d14, d15, d16, d17, d18, d19, d20, d21, d22, d23, d24]
theorem m0 : mSs ⟨N0, fnS, 0, nf, nx⟩ ir0 (defScope s0) (defBody s0) = true := by decide +kernel
theorem sc0 : FnScope N0 P0 (defScope s0) := ⟨rfl, rfl, rfl, by decide +kernel, rfl, by decide +kernel, by decide +kernel⟩
theorem m1 : mSs ⟨N1, fnS, 1, nf, nx⟩ ir1 (defScope s1) (defBody s1) = true := by decide +kernel
theorem sc1 : FnScope N1 P1 (defScope s1) := ⟨rfl, rfl, rfl, by decide +kernel, rfl, by decide +kernel, by decide +kernel⟩
theorem m2 : mSs ⟨N2, fnS, 2, nf, nx⟩ ir2 (defScope s2) (defBody s2) = true := by decide +kernel
theorem sc2 : FnScope N2 P2 (defScope s2) := ⟨rfl, rfl, rfl, by decide +kernel, rfl, by decide +kernel, by decide +kernel⟩
theorem m3 : mSs ⟨N3, fnS, 3, nf, nx⟩ ir3 (defScope s3) (defBody s3) = true := by decide +kernel
theorem sc3 : FnScope N3 P3 (defScope s3) := ⟨rfl, rfl, rfl, by decide +kernel, rfl, by decide +kernel, by decide +kernel⟩
theorem m4 : mSs ⟨N4, fnS, 4, nf, nx⟩ ir4 (defScope s4) (defBody s4) = true := by decide +kernel
theorem sc4 : FnScope N4 P4 (defScope s4) := ⟨rfl, rfl, rfl, by decide +kernel, rfl, by decide +kernel, by decide +kernel⟩
theorem m5 : mSs ⟨N5, fnS, 5, nf, nx⟩ ir5 (defScope s5) (defBody s5) = true := by decide +kernel
theorem sc5 : FnScope N5 P5 (defScope s5) := ⟨rfl, rfl, rfl, by decide +kernel, rfl, by decide +kernel, by decide +kernel⟩
theorem m6 : mSs ⟨N6, fnS, 6, nf, nx⟩ ir6 (defScope s6) (defBody s6) = true := by decide +kernel
theorem sc6 : FnScope N6 P6 (defScope s6) := ⟨rfl, rfl, rfl, by decide +kernel, rfl, by decide +kernel, by decide +kernel⟩
theorem m7 : mSs ⟨N7, fnS, 7, nf, nx⟩ ir7 (defScope s7) (defBody s7) = true := by decide +kernel
theorem sc7 : FnScope N7 P7 (defScope s7) := ⟨rfl, rfl, rfl, by decide +kernel, rfl, by decide +kernel, by decide +kernel⟩
theorem m8 : mSs ⟨N8, fnS, 8, nf, nx⟩ ir8 (defScope s8) (defBody s8) = true := by decide +kernel
theorem sc8 : FnScope N8 P8 (defScope s8) := ⟨rfl, rfl, rfl, by decide +kernel, rfl, by decide +kernel, by decide +kernel⟩
theorem m9 : mSs ⟨N9, fnS, 9, nf, nx⟩ ir9 (defScope s9) (defBody s9) = true := by decide +kernel
theorem sc9 : FnScope N9 P9 (defScope s9) := ⟨rfl, rfl, rfl, by decide +kernel, rfl, by decide +kernel, by decide +kernel⟩
theorem m10 : mSs ⟨N10, fnS, 10, nf, nx⟩ ir10 (defScope s10) (defBody s10) = true := by decide +kernel
theorem sc10 : FnScope N10 P10 (defScope s10) := ⟨rfl, rfl, rfl, by decide +kernel, rfl, by decide +kernel, by decide +kernel⟩
theorem m11 : mSs ⟨N11, fnS, 11, nf, nx⟩ ir11 (defScope s11) (defBody s11) = true := by decide +kernel
theorem sc11 : FnScope N11 P11 (defScope s11) := ⟨rfl, rfl, rfl, by decide +kernel, rfl, by decide +kernel, by decide +kernel⟩
theorem m12 : mSs ⟨N12, fnS, 12, nf, nx⟩ ir12 (defScope s12) (defBody s12) = true := by decide +kernel
theorem sc12 : FnScope N12 P12 (defScope s12) := ⟨rfl, rfl, rfl, by decide +kernel, rfl, by decide +kernel, by decide +kernel⟩
theorem m13 : mSs ⟨N13, fnS, 13, nf, nx⟩ ir13 (defScope s13) (defBody s13) = true := by decide +kernel
theorem sc13 : FnScope N13 P13 (defScope s13) := ⟨rfl, rfl, rfl, by decide +kernel, rfl, by decide +kernel, by decide +kernel⟩
theorem m14 : mSs ⟨N14, fnS, 14, nf, nx⟩ ir14 (defScope s14) (defBody s14) = true := by decide +kernel
theorem sc14 : FnScope N14 P14 (defScope s14) := ⟨rfl, rfl, rfl, by decide +kernel, rfl, by decide +kernel, by decide +kernel⟩
theorem m15 : mSs ⟨N15, fnS, 15, nf, nx⟩ ir15 (defScope s15) (defBody s15) = true := by decide +kernel
theorem sc15 : FnScope N15 P15 (defScope s15) := ⟨rfl, rfl, rfl, by decide +kernel, rfl, by decide +kernel, by decide +kernel⟩
theorem m16 : mSs ⟨N16, fnS, 16, nf, nx⟩ ir16 (defScope s16) (defBody s16) = true := by decide +kernel
theorem sc16 : FnScope N16 P16 (defScope s16) := ⟨rfl, rfl, rfl, by decide +kernel, rfl, by decide +kernel, by decide +kernel⟩
theorem m17 : mSs ⟨N17, fnS, 17, nf, nx⟩ ir17 (defScope s17) (defBody s17) = true := by decide +kernel
theorem sc17 : FnScope N17 P17 (defScope s17) := ⟨rfl, rfl, rfl, by decide +kernel, rfl, by decide +kernel, by decide +kernel⟩
theorem m18 : mSs ⟨N18, fnS, 18, nf, nx⟩ ir18 (defScope s18) (defBody s18) = true := by decide +kernel
theorem sc18 : FnScope N18 P18 (defScope s18) := ⟨rfl, rfl, rfl, by decide +kernel, rfl, by decide +kernel, by decide +kernel⟩
theorem m19 : mSs ⟨N19, fnS, 19, nf, nx⟩ ir19 (defScope s19) (defBody s19) = true := by decide +kernel
theorem sc19 : FnScope N19 P19 (defScope s19) := ⟨rfl, rfl, rfl, by decide +kernel, rfl, by decide +kernel, by decide +kernel⟩
theorem m20 : mSs ⟨N20, fnS, 21, nf, nx⟩ ir20 (defScope s20) (defBody s20) = true := by decide +kernel
theorem sc20 : FnScope N20 P20 (defScope s20) := ⟨rfl, rfl, rfl, by decide +kernel, rfl, by decide +kernel, by decide +kernel⟩
theorem m21 : mSs ⟨N21, fnS, 21, nf, nx⟩ ir21 (defScope s21) (defBody s21) = true := by decide +kernel
theorem sc21 : FnScope N21 P21 (defScope s21) := ⟨rfl, rfl, rfl, by decide +kernel, rfl, by decide +kernel, by decide +kernel⟩
theorem m22 : mSs ⟨N22, fnS, 22, nf, nx⟩ ir22 (defScope s22) (defBody s22) = true := by decide +kernel
theorem sc22 : FnScope N22 P22 (defScope s22) := ⟨rfl, rfl, rfl, by decide +kernel, rfl, by decide +kernel, by decide +kernel⟩
theorem m23 : mSs ⟨N23, fnS, 23, nf, nx⟩ ir23 (defScope s23) (defBody s23) = true := by decide +kernel
theorem sc23 : FnScope N23 P23 (defScope s23) := ⟨rfl, rfl, rfl, by decide +kernel, rfl, by decide +kernel, by decide +kernel⟩
theorem m24 : mSs ⟨N24, fnS, 24, nf, nx⟩ ir24 (defScope s24) (defBody s24) = true := by decide +kernel
theorem sc24 : FnScope N24 P24 (defScope s24) := ⟨rfl, rfl, rfl, by decide +kernel, rfl, by decide +kernel, by decide +kernel⟩
abbrev R0 : PySem.W.OpenRow := PySem.W.OpenLaw.row PySem.Challenge.rw_reckonhall_k71_whole_bernoullis_numbers
abbrev hk : PySem.W.Hook := He.hookD 4 fas dfs
def ob (s : PySem.W.SharedT) : He.AlD := He.obsDG 4 fas dfs (HandSHeadRun.getT s)
theorem ob_eq (s : PySem.W.SharedT) : ob s = hk.obs s.abs := He.obsDG_eq (HandSHeadRun.getT_eq s)
theorem run (w : World) : HandSHeadRun.RunEq R0 (PySem.W.view R0.prog [lawAt]) hk ob 4000 loose0 w := by
  intro os
  kernel_rfl
end RL
namespace RL
open PySem PySem.Spec PyProof.Rows L2 RK
abbrev oneI (n : Nat) : List D := [.int n]
def stC (n : Nat) (f : List Nat) (i : Nat) : List Nat := f ++ [f.getLastD 0 * (n - i) / (i + 1)]
def chooseN (n : Nat) : List Nat := (List.range n).foldl (stC n) [1]
/-! ## shares -/
abbrev Sh := Int × Nat
def encS (x : Sh) : D := .tup [.int x.1, .int (x.2 : Nat)]
def shN (a : Int) (b : Nat) : Sh := (a / (Int.gcd a b : Nat), b / Int.gcd a b)
/-- Bernoulli's numbers up to sixty -/
def bTab : List Sh := [(1, 1), (-1, 2), (1, 6), (0, 1), (-1, 30), (0, 1), (1, 42), (0, 1), (-1, 30), (0, 1), (5, 66), (0, 1), (-691, 2730), (0, 1), (7, 6), (0, 1), (-3617, 510), (0, 1), (43867, 798), (0, 1), (-174611, 330), (0, 1), (854513, 138), (0, 1), (-236364091, 2730), (0, 1), (8553103, 6), (0, 1), (-23749461029, 870), (0, 1), (8615841276005, 14322), (0, 1), (-7709321041217, 510), (0, 1), (2577687858367, 6), (0, 1), (-26315271553053477373, 1919190), (0, 1), (2929993913841559, 6), (0, 1), (-261082718496449122051, 13530), (0, 1), (1520097643918070802691, 1806), (0, 1), (-27833269579301024235023, 690), (0, 1), (596451111593912163277961, 282), (0, 1), (-5609403368997817686249127547, 46410), (0, 1), (495057205241079648212477525, 66), (0, 1), (-801165718135489957347924991853, 1590), (0, 1), (29149963634884862421418123812691, 798), (0, 1), (-2479392929313226753685415739663229, 870), (0, 1), (84483613348880041862046775994036021, 354), (0, 1), (-1215233140483755572040304994079820246041491, 56786730)]
def enumN {α : Type} : Nat → List α → List (Nat × α)
  | _, [] => []
  | n, a :: r => (n, a) :: enumN (n + 1) r
theorem enum_map {α : Type} (e : α → D) : ∀ (l : List α) (n : Nat), enumL n (l.map e) = (enumN n l).map fun p => .tup [.int (p.1 : Nat), e p.2]
  | [], _ => rfl
  | a :: r, n => by
    show _ :: enumL (n + 1) (r.map e) = _ :: _
    rw [enum_map e r (n + 1)]
theorem enumN_len {α : Type} : ∀ (l : List α) (n : Nat), (enumN n l).length = l.length
  | [], _ => rfl
  | a :: r, n => by
    show (enumN (n + 1) r).length + 1 = r.length + 1
    rw [enumN_len r (n + 1)]
theorem enumN_mem {α : Type} : ∀ (l : List α) (n : Nat) (p : Nat × α), p ∈ enumN n l → n ≤ p.1 ∧ p.1 < n + l.length ∧ p.2 ∈ l
  | a :: r, n, p, h => by
    rcases List.mem_cons.mp h with rfl | h
    · exact ⟨Nat.le_refl _, by show n < n + (r.length + 1); omega, .head _⟩
    · have := enumN_mem r (n + 1) p h
      exact ⟨by omega, by show _ < n + (r.length + 1); omega, .tail _ this.2.2⟩
/-- a walk whose states all pass a test -/
def scan {S α : Type} (f : S → α → S) (ok : S → Bool) : List α → S → Bool
  | [], s => ok s
  | a :: r, s => ok s && scan f ok r (f s a)
theorem scan_end {S α : Type} {f : S → α → S} {ok : S → Bool} : ∀ {l : List α} {s : S}, scan f ok l s = true → ok (l.foldl f s) = true
  | [], _, h => h
  | a :: r, s, h => by
    have h : (ok s && scan f ok r (f s a)) = true := h
    rw [Bool.and_eq_true] at h
    exact scan_end (l := r) h.2
theorem for_scan {C : Ct} {E : Xn → En → Prop} {D : DE} {S α : Type} {t : Tg} {a : List Sm} (f : S → α → S) (enc : S → En) (ok : S → Bool) {xs : List α} {e : α → RK.D} {s0 : S} (h0 : scan f ok xs s0 = true)
    (hb : ∀ s x k, ok s = true → ok (f s x) = true → x ∈ xs → k (enc (f s x)) → asgT t (.v (e x)) (enc s) fun ρ3 => RK.wSs C E a ⟨k, D.rt, D.nx, k⟩ ρ3) (hn : ok (xs.foldl f s0) = true → D.nx (enc (xs.foldl f s0))) : forK C E t a D (xs.map e) (enc s0) := by
  have hb' : ∀ s x k, scan f ok [x] s = true → x ∈ xs → k (enc (f s x)) → asgT t (.v (e x)) (enc s) fun ρ3 => RK.wSs C E a ⟨k, D.rt, D.nx, k⟩ ρ3 := fun s x k h hx hk => by
    have h : (ok s && ok (f s x)) = true := h
    rw [Bool.and_eq_true] at h
    exact hb s x k h.1 h.2 hx hk
  clear hb
  unfold forK
  induction xs generalizing s0 with
  | nil => exact hn h0
  | cons x xs ih =>
    have h : (ok s0 && scan f ok xs (f s0 x)) = true := h0
    rw [Bool.and_eq_true] at h
    have o1 : ok (f s0 x) = true := by
      cases xs with
      | nil => exact h.2
      | cons y ys =>
        have h2 : (ok (f s0 x) && _) = true := h.2
        rw [Bool.and_eq_true] at h2
        exact h2.1
    exact hb' s0 x _ (by show (ok s0 && ok (f s0 x)) = true; rw [h.1, o1]; rfl) (.head _) (ih h.2 hn fun s y k h hy hk => hb' s y k h (.tail _ hy) hk)
def big (t : Sh) : Bool := decide (t.1.natAbs < 2 ^ 512) && (decide (0 < t.2) && decide (t.2 < 2 ^ 512))
def bsT (row : List Nat) (t : Sh) (p : Nat × Sh) : Sh := shN (t.1 * p.2.2 + row.getD p.1 0 * p.2.1 * t.2) (t.2 * p.2.2)
def bIn (k : Nat) : List (Nat × Sh) := enumN 0 (bTab.take (k + 1))
theorem b_ok : ((List.range 60).all fun k => scan (bsT (chooseN (k + 2))) big (bIn k) (0, 1) && (let t := (bIn k).foldl (bsT (chooseN (k + 2))) (0, 1); decide (shN (-t.1) (t.2 * (k + 2)) = bTab.getD (k + 1) (0, 1)))) = true := by decide +kernel
theorem b_tab : (bTab.all fun x => big x && decide (x.1.natAbs < 2 ^ 256) && decide (x.2 < 2 ^ 64) && decide (Int.gcd x.1 x.2 = 1)) = true := by decide +kernel
end RL
namespace RL
open PySem PySem.Spec PyProof.Rows L2 RK
/-! ## shares -/
theorem shN_ok {a : Int} {b : Nat} (hb : 0 < b) : 0 < (shN a b).2 ∧ (shN a b).2 ≤ b ∧ (shN a b).1.natAbs ≤ a.natAbs ∧ (shN a b).1 * (b : Int) = a * ((shN a b).2 : Int) ∧ Int.gcd (shN a b).1 (shN a b).2 = 1 := by
  have q0 : 0 < Int.gcd a (b : Int) := Nat.gcd_pos_of_pos_right _ hb
  have q1 : Int.gcd a (b : Int) ≤ b := Nat.gcd_le_right _ hb
  have q2 := Int.gcd_ediv_gcd_ediv_gcd q0
  have e1 := Int.ediv_mul_cancel (Int.gcd_dvd_left a (b : Int))
  have e2 := Int.ediv_mul_cancel (Int.gcd_dvd_right a (b : Int))
  have em : (b : Int) / (Int.gcd a (b : Int) : Nat) = ((b / Int.gcd a (b : Int) : Nat) : Int) := (Int.natCast_ediv _ _).symm
  refine ⟨Nat.div_pos q1 q0, Nat.div_le_self _ _, Int.natAbs_ediv_le_natAbs _ _, ?_, ?_⟩
  · show a / (Int.gcd a (b : Int) : Nat) * (b : Int) = a * ((b / Int.gcd a (b : Int) : Nat) : Int)
    rw [← em]
    generalize (Int.gcd a (b : Int) : Int) = g at *
    generalize a / g = x at *
    generalize (b : Int) / g = y at *
    subst e1
    rw [← e2]
    grind
  · show Int.gcd (a / (Int.gcd a (b : Int) : Nat)) ((b / Int.gcd a (b : Int) : Nat) : Int) = 1
    rw [← em]
    exact q2
/-! ## forms -/
def ev : List Int → Int → Int
  | [], _ => 0
  | c :: r, x => c + x * ev r x
def addP : List Int → List Int → List Int
  | [], b => b
  | a, [] => a
  | a :: r, b :: s => (a + b) :: addP r s
def sclP (k : Int) (l : List Int) : List Int := l.map (k * ·)
def shP : List Int → List Int
  | [] => []
  | c :: r => addP [c] (addP (shP r) (0 :: shP r))
def monP (c : Int) : Nat → List Int
  | 0 => [c]
  | k + 1 => 0 :: monP c k
theorem ev_add (x : Int) : ∀ a b : List Int, ev (addP a b) x = ev a x + ev b x
  | [], b => by unfold addP; rw [show ev [] x = 0 from rfl]; omega
  | a :: r, [] => by rw [show addP (a :: r) [] = a :: r by unfold addP; rfl, show ev [] x = 0 from rfl]; omega
  | a :: r, b :: s => by
    rw [show addP (a :: r) (b :: s) = (a + b) :: addP r s by rw [addP]]
    show a + b + x * ev (addP r s) x = a + x * ev r x + (b + x * ev s x)
    rw [ev_add x r s]; grind
theorem ev_scl (k x : Int) : ∀ l : List Int, ev (sclP k l) x = k * ev l x
  | [] => by show (0 : Int) = k * 0; omega
  | a :: r => by
    show k * a + x * ev (sclP k r) x = k * (a + x * ev r x)
    rw [ev_scl k x r]; grind
theorem ev_sh (x : Int) : ∀ l : List Int, ev (shP l) x = ev l (x + 1)
  | [] => rfl
  | c :: r => by
    rw [shP, ev_add, ev_add]
    show c + x * 0 + (ev (shP r) x + (0 + x * ev (shP r) x)) = c + (x + 1) * ev r (x + 1)
    rw [ev_sh x r]; grind
theorem ev_mon (c x : Int) : ∀ k : Nat, ev (monP c k) x = c * x ^ k
  | 0 => by show c + x * 0 = c * x ^ 0; rw [Int.pow_zero]; omega
  | k + 1 => by
    show 0 + x * ev (monP c k) x = c * x ^ (k + 1)
    rw [ev_mon c x k, Int.pow_succ]; grind
theorem ev_nul (x : Int) : ∀ l : List Int, (l.all (· == 0)) = true → ev l x = 0
  | [], _ => rfl
  | a :: r, h => by
    rw [List.all_cons, Bool.and_eq_true] at h
    have h1 : a = 0 := by simpa using h.1
    show a + x * ev r x = 0
    rw [ev_nul x r h.2, h1]; omega
theorem ev_zero : ∀ l : List Int, ev l 0 = l.headD 0
  | [] => rfl
  | a :: r => by show a + 0 * ev r 0 = a; omega
/-! ## sums of powers -/
def sumP (p : Nat) : Nat → Nat
  | 0 => 0
  | n + 1 => sumP p n + (n + 1) ^ p
abbrev L0 : Nat := 9699690
def abI (p : Nat) (row : List Nat) (x : Nat × Sh) : Int := (if x.1 = 1 then -x.2.1 else x.2.1) * (row.getD x.1 0 : Nat)
def suT (p : Nat) (row : List Nat) (n : Nat) (t : Sh) (x : Nat × Sh) : Sh := shN (t.1 * x.2.2 + abI p row x * ((n ^ (p + 1 - x.1) : Nat) : Int) * t.2) (t.2 * x.2.2)
def coS (p : Nat) (row : List Nat) (c : List Int) (x : Nat × Sh) : List Int := addP c (monP ((L0 / x.2.2 : Nat) * abI p row x) (p + 1 - x.1))
def sIn (p : Nat) : List (Nat × Sh) := enumN 0 (bTab.take (p + 1))
def coP (p : Nat) : List Int := (sIn p).foldl (coS p (chooseN (p + 1))) []
theorem co_ok : ((List.range 21).all fun p => let c := coP p; (c.headD 0 == 0) && (addP (shP c) (addP (sclP (-1) c) (sclP (-((L0 * (p + 1) : Nat) : Int)) (shP (monP 1 p))))).all (· == 0)) = true := by decide +kernel
theorem co_in : ((List.range 21).all fun p => (sIn p).all fun x => decide (x.2.2 ∣ L0) && decide (0 < x.2.2) && decide ((abI p (chooseN (p + 1)) x).natAbs < 2 ^ 64) && decide (x.1 ≤ p) && decide ((chooseN (p + 1)).getD x.1 0 < 2 ^ 64)) = true := by decide +kernel
theorem co_sum {p : Nat} (hp : p ≤ 20) : ∀ n : Nat, ev (coP p) n = ((L0 * (p + 1) * sumP p n : Nat) : Int)
  | 0 => by
    have h := List.all_eq_true.mp co_ok p (List.mem_range.mpr (by omega))
    simp only [Bool.and_eq_true, beq_iff_eq] at h
    show ev (coP p) 0 = _
    rw [ev_zero, h.1]; rfl
  | n + 1 => by
    have h := List.all_eq_true.mp co_ok p (List.mem_range.mpr (by omega))
    simp only [Bool.and_eq_true] at h
    have e := ev_nul n _ h.2
    rw [ev_add, ev_add, ev_scl, ev_scl, ev_sh, ev_sh, ev_mon, co_sum hp n] at e
    show ev (coP p) ((n + 1 : Nat) : Int) = ((L0 * (p + 1) * (sumP p n + (n + 1) ^ p) : Nat) : Int)
    have e3 : ((n + 1 : Nat) : Int) = (n : Int) + 1 := by omega
    rw [Nat.mul_add, Int.natCast_add (L0 * (p + 1) * sumP p n), Int.natCast_mul (L0 * (p + 1)) ((n + 1) ^ p), Int.natCast_pow, e3]
    generalize ((L0 * (p + 1) : Nat) : Int) = k at *
    generalize ((n : Int) + 1) ^ p = w at *
    generalize ((L0 * (p + 1) * sumP p n : Nat) : Int) = z at *
    generalize ev (coP p) ((n : Int) + 1) = y at *
    grind
/-- the sum that is reckoned with shares, so far -/
structure SI (p n : Nat) (t : Sh) (c : List Int) : Prop where
  pos : 0 < t.2
  dv : t.2 ∣ L0
  eq : t.1 * (L0 : Int) = ev c n * t.2
theorem SI.step {p n : Nat} {t : Sh} {c : List Int} (h : SI p n t c) {row : List Nat} {x : Nat × Sh} (h1 : x.2.2 ∣ L0) (h0 : 0 < x.2.2) : SI p n (suT p row n t x) (coS p row c x) := by
  obtain ⟨q, hq⟩ := h1
  have hpos : 0 < t.2 * x.2.2 := Nat.mul_pos h.pos h0
  obtain ⟨s1, s2, s3, s4, s5⟩ := shN_ok (a := t.1 * x.2.2 + abI p row x * ((n ^ (p + 1 - x.1) : Nat) : Int) * t.2) hpos
  have hq2 : L0 / x.2.2 = q := by rw [hq, Nat.mul_comm]; exact Nat.mul_div_cancel _ h0
  have e : ev (coS p row c x) n = ev c n + (q : Int) * abI p row x * ((n ^ (p + 1 - x.1) : Nat) : Int) := by
    unfold coS
    rw [ev_add, ev_mon, hq2, Int.natCast_pow]
  have heq := h.eq
  have key : (suT p row n t x).1 * (L0 : Int) = ev (coS p row c x) n * (suT p row n t x).2 := by
    rw [e]
    rw [Int.mul_assoc (q : Int)]
    show (shN (t.1 * x.2.2 + abI p row x * ((n ^ (p + 1 - x.1) : Nat) : Int) * t.2) (t.2 * x.2.2)).1 * (L0 : Int) = (ev c n + q * (abI p row x * ((n ^ (p + 1 - x.1) : Nat) : Int))) * ((shN (t.1 * x.2.2 + abI p row x * ((n ^ (p + 1 - x.1) : Nat) : Int) * t.2) (t.2 * x.2.2)).2 : Int)
    generalize shN (t.1 * x.2.2 + abI p row x * ((n ^ (p + 1 - x.1) : Nat) : Int) * t.2) (t.2 * x.2.2) = s at *
    generalize abI p row x * ((n ^ (p + 1 - x.1) : Nat) : Int) = w at *
    have hL : (L0 : Int) = (x.2.2 : Int) * q := by rw [hq]; exact Int.natCast_mul _ _
    rw [Int.natCast_mul] at s4
    have hx : ((x.2.2 : Nat) : Int) ≠ 0 := by omega
    have ht : ((t.2 : Nat) : Int) ≠ 0 := by have := h.pos; omega
    refine Int.eq_of_mul_eq_mul_right (Int.mul_ne_zero ht hx) ?_
    generalize (L0 : Int) = L at *
    generalize (t.2 : Int) = t2 at *
    generalize (x.2.2 : Int) = x2 at *
    generalize ev c n = E at *
    generalize (q : Int) = q at *
    generalize (s.2 : Int) = z2 at *
    clear hq hq2 s1 s2 s3 s5 hx ht
    grind
  refine ⟨s1, ?_, key⟩
  have k2 := congrArg Int.natAbs key
  rw [Int.natAbs_mul, Int.natAbs_mul, Int.natAbs_natCast, Int.natAbs_natCast] at k2
  have cp : Nat.Coprime (suT p row n t x).2 (suT p row n t x).1.natAbs := by
    have : Nat.gcd (suT p row n t x).1.natAbs (suT p row n t x).2 = 1 := s5
    rw [Nat.gcd_comm] at this
    exact this
  exact cp.dvd_of_dvd_mul_left ⟨(ev (coS p row c x) n).natAbs, by rw [k2, Nat.mul_comm]⟩
theorem SI.first (p n : Nat) : SI p n (0, 1) [] := ⟨by decide, ⟨L0, rfl⟩, by show (0 : Int) * _ = 0 * 1; omega⟩
theorem SI.done {p n : Nat} {t : Sh} (hp : p ≤ 20) (h : SI p n t (coP p)) : t.1 / (((t.2 : Nat) : Int) * ((p : Int) + 1)) = (sumP p n : Nat) := by
  have e := h.eq
  have hpos := h.pos
  rw [co_sum hp n] at e
  have e2 : t.1 = (sumP p n : Nat) * (((t.2 : Nat) : Int) * ((p : Int) + 1)) := by
    refine Int.eq_of_mul_eq_mul_right (show (L0 : Int) ≠ 0 by decide) ?_
    rw [e, Int.natCast_mul, Int.natCast_mul, Int.natCast_add]
    grind
  rw [e2]
  refine Int.mul_ediv_cancel _ ?_
  exact Int.mul_ne_zero (by omega) (by omega)
theorem SI.small {p n : Nat} {t : Sh} {c : List Int} (h : SI p n t c) : t.2 ≤ L0 ∧ t.1.natAbs ≤ (ev c n).natAbs := by
  have hl := Nat.le_of_dvd (by decide) h.dv
  refine ⟨hl, ?_⟩
  have e := congrArg Int.natAbs h.eq
  rw [Int.natAbs_mul, Int.natAbs_mul, Int.natAbs_natCast, Int.natAbs_natCast] at e
  refine Nat.le_of_mul_le_mul_right (c := L0) ?_ (by decide)
  rw [e]
  exact Nat.mul_le_mul_left _ hl
/-! ## binomials, forms by differences -/
def bin : Nat → Nat → Nat
  | _, 0 => 1
  | 0, _ + 1 => 0
  | n + 1, k + 1 => bin n k + bin n (k + 1)
theorem bin0 (n : Nat) : bin n 0 = 1 := by cases n <;> rfl
theorem binS (n k : Nat) : bin (n + 1) (k + 1) = bin n k + bin n (k + 1) := rfl
theorem bin_step : ∀ n k : Nat, (bin n k : Int) * ((n : Int) - k) = ((k : Int) + 1) * bin n (k + 1)
  | 0, 0 => by decide
  | 0, k + 1 => by show (0 : Int) * _ = _ * 0; omega
  | n + 1, 0 => by
    have := bin_step n 0
    rw [binS, bin0, bin0] at *
    simp only [Int.natCast_add] at *
    grind
  | n + 1, k + 1 => by
    have h1 := bin_step n k
    have h2 := bin_step n (k + 1)
    rw [binS, binS]
    simp only [Int.natCast_add] at *
    grind
theorem bin_le : ∀ n k : Nat, bin n k ≤ n ^ k
  | n, 0 => by rw [bin0, Nat.pow_zero]; exact Nat.le_refl _
  | 0, k + 1 => Nat.zero_le _
  | n + 1, k + 1 => by
    rw [binS]
    have h1 := bin_le n k
    have h2 := bin_le n (k + 1)
    have h3 : n ^ k ≤ (n + 1) ^ k := Nat.pow_le_pow_left (by omega) k
    rw [Nat.pow_succ] at h2 ⊢
    calc bin n k + bin n (k + 1) ≤ n ^ k + n ^ k * n := Nat.add_le_add h1 h2
      _ = n ^ k * (n + 1) := by rw [Nat.mul_add]; omega
      _ ≤ _ := Nat.mul_le_mul_right _ h3
theorem bin_zero {n k : Nat} (h : n < k) : bin n k = 0 := by
  induction n generalizing k with
  | zero => cases k with
    | zero => omega
    | succ k => rfl
  | succ n ih => cases k with
    | zero => omega
    | succ k => rw [binS, ih (by omega), ih (by omega)]
def nv : List Int → Nat → Nat → Int
  | [], _, _ => 0
  | a :: r, k, m => a * bin m k + nv r (k + 1) m
def nxL (c : Int) (k : Nat) : List Int → List Int
  | [] => [k * c]
  | a :: r => (k * a + k * c) :: nxL a (k + 1) r
theorem nv_nx (m : Nat) : ∀ (l : List Int) (c : Int) (k : Nat), nv (nxL c k l) k m = m * nv l k m + k * c * bin m k
  | [], c, k => by show k * c * bin m k + 0 = m * 0 + _; omega
  | a :: r, c, k => by
    show (k * a + k * c) * bin m k + nv (nxL a (k + 1) r) (k + 1) m = m * (a * bin m k + nv r (k + 1) m) + _
    rw [nv_nx m r a (k + 1)]
    have := bin_step m k
    rw [Int.natCast_add]
    grind
theorem nv_up (m : Nat) : ∀ (l : List Int) (k : Nat), nv l (k + 1) (m + 1) = nv l (k + 1) m + nv l k m
  | [], k => rfl
  | a :: r, k => by
    show a * bin (m + 1) (k + 1) + nv r (k + 1 + 1) (m + 1) = a * bin m (k + 1) + nv r (k + 1 + 1) m + (a * bin m k + nv r (k + 1) m)
    rw [nv_up m r (k + 1), binS, Int.natCast_add]
    grind
theorem nv_z : ∀ (l : List Int) (k : Nat), nv l (k + 1) 0 = 0
  | [], k => rfl
  | a :: r, k => by
    show a * bin 0 (k + 1) + nv r (k + 1 + 1) 0 = 0
    rw [nv_z r (k + 1)]
    show a * 0 + 0 = (0 : Int)
    omega
def diffI : List Int → List Int
  | a :: b :: r => (b - a) :: diffI (b :: r)
  | _ => []
def leadsI : Nat → List Int → List Int
  | k + 1, a :: r => a :: leadsI k (diffI (a :: r))
  | _, _ => []
def powsI (p : Nat) : List Int := (List.range (p + 1)).map fun k => ((k ^ p : Nat) : Int)
def plD (p : Nat) : List Int := leadsI (p + 1) (powsI p)
theorem pl_ok : ((List.range 20).all fun p => decide (plD (p + 1) = nxL 0 0 (plD p))) = true := by decide +kernel
theorem pl_big : ((List.range 21).all fun p => (plD p).all fun x => decide (x.natAbs < 2 ^ 512)) = true := by decide +kernel
theorem newton (m : Nat) : ∀ p : Nat, p ≤ 20 → nv (plD p) 0 m = ((m ^ p : Nat) : Int)
  | 0, _ => by
    have : plD 0 = [1] := by decide
    rw [this]
    show 1 * (bin m 0 : Int) + 0 = ((m ^ 0 : Nat) : Int)
    rw [bin0]; rfl
  | p + 1, h => by
    have e := of_decide_eq_true (List.all_eq_true.mp pl_ok p (List.mem_range.mpr (by omega)))
    rw [e, nv_nx, newton m p (by omega), Nat.pow_succ, Int.natCast_mul]
    grind
theorem psum {p : Nat} (hp : p ≤ 20) : ∀ n : Nat, nv (plD p) 1 (n + 1) - (if p = 0 then 1 else 0) = (sumP p n : Nat)
  | 0 => by
    rw [nv_up, nv_z, newton 0 p hp]
    show 0 + ((0 ^ p : Nat) : Int) - _ = 0
    by_cases c : p = 0
    · subst c; rfl
    · rw [if_neg c, Nat.zero_pow (by omega)]; rfl
  | n + 1 => by
    have : nv (plD p) (0 + 1) (n + 1) - (if p = 0 then 1 else 0) = (sumP p n : Nat) := psum hp n
    rw [nv_up, newton (n + 1) p hp]
    show _ = ((sumP p n + (n + 1) ^ p : Nat) : Int)
    rw [Int.natCast_add]
    omega
theorem nv_sum (m : Nat) : ∀ (l : List Int) (k : Nat), ((enumN k l).map fun x => x.2 * (bin m x.1 : Int)).sum = nv l k m
  | [], k => rfl
  | a :: r, k => by
    show (a * (bin m k : Int) :: (enumN (k + 1) r).map _).sum = a * bin m k + nv r (k + 1) m
    rw [List.sum_cons, nv_sum m r (k + 1)]
end RL
namespace RL
open PySem PySem.Spec PyProof.Rows L2 RK
/-! ## factors -/
def strF : Nat → Nat → Nat × Nat → Nat × Nat
  | 0, _, s => s
  | k + 1, p, s => if s.1 % p = 0 then strF k p (s.1 / p, s.2 + 1) else s
def onP (p k : Nat) : List (Nat × Nat) := if 0 < k then [(p, k)] else []
def faS (s : List (Nat × Nat) × Nat) (i : Nat) : List (Nat × Nat) × Nat := let r := strF 64 (2 + i) (s.2, 0); (s.1 ++ onP (2 + i) r.2, r.1)
def farF (n : Nat) : List (Nat × Nat) := ((List.range 60).foldl faS ([], n)).1
def lfS (s : List (Nat × Nat) × Nat × Nat) : Option (List (Nat × Nat) × Nat × Nat) :=
  if 1 < s.2.1 then
    let p := if s.2.1 < s.2.2 * s.2.2 then s.2.1 else s.2.2
    let r := strF 64 p (s.2.1, 0)
    some (s.1 ++ onP p r.2, r.1, p + 1)
  else none
def facT (n : Nat) : List (Nat × Nat) := ((runF lfS 64 ([], n, 2)).getD ([], 0, 0)).1
def encP (x : Nat × Nat) : D := .tup [.int x.1, .int x.2]
theorem lf_ok : ((List.range 62).all fun k => (runF lfS 64 ([], k + 1, 2)).isSome) = true := by decide +kernel
def isP (n : Nat) : Bool := decide (facT n = [(n, 1)])
theorem eq_ok : ((List.range 62).all fun k => eqD (.tup ((facT (k + 1)).map encP)) (.tup [.tup [.int (k + 1 : Nat), .int (1 : Nat)]]) == isP (k + 1)) = true := by decide +kernel
def pbN (n : Nat) : List Nat := (farF (bTab.getD n (0, 1)).2).map (·.1)
/-! ## the law -/
def lwS (place : Nat) (s : Sh × Nat) (i : Nat) : Sh × Nat := let x := bTab.getD i (0, 1); ((s.1.1 * x.2 + s.2 * x.1 * s.1.2, s.1.2 * x.2), s.2 * (place + 1 - i) / (i + 1))
def lwB (s : Sh × Nat) : Bool := decide (s.1.1.natAbs < 2 ^ 4096) && decide (s.1.2 < 2 ^ 4096) && decide (s.2 < 2 ^ 64)
theorem lw_ok : ((List.range 60).all fun k => scan (lwS (k + 1)) lwB (List.range (k + 2)) ((0, 1), 1) && decide (((List.range (k + 2)).foldl (lwS (k + 1)) ((0, 1), 1)).1.1 = 0)) = true := by decide +kernel
def dueN (e : Nat) : List Nat := ((List.range e).map (2 + ·)).filter fun p => isP p && decide (e % (p - 1) = 0)
def evS (s : Int × Nat × Nat) (p : Nat) : Int × Nat × Nat := (s.1 * p + s.2.1, s.2.1 * p, s.2.2 * p)
def evB (s : Int × Nat × Nat) : Bool := decide (s.1.natAbs < 2 ^ 4096) && decide (s.2.1 < 2 ^ 4096) && decide (s.2.2 < 2 ^ 4096) && decide (0 < s.2.1)
theorem ev_ok : ((List.range 30).all fun k => let e := 2 + 2 * k; let x := bTab.getD e (0, 1); let r := (dueN e).foldl evS (x.1, x.2, 1); scan evS evB (dueN e) (x.1, x.2, 1) && decide (pbN e = dueN e) && decide (x.2 = r.2.2) && decide (r.1 % (r.2.1 : Int) = 0)) = true := by decide +kernel
theorem od_ok : ((List.range 29).all fun k => decide (bTab.getD (3 + 2 * k) (0, 1) = (0, 1)) && decide (pbN (3 + 2 * k) = [])) = true := by decide +kernel
theorem en_ok : bTab.getD 0 (0, 1) = (1, 1) ∧ bTab.getD 1 (0, 1) = (-1, 2) ∧ bTab.getD 2 (0, 1) = (1, 6) ∧ bTab.getD 20 (0, 1) = (-174611, 330) ∧ pbN 60 = [2, 3, 5, 7, 11, 13, 31, 61] ∧ (bTab.getD 60 (0, 1)).2 = 56786730 := by decide +kernel
theorem due_small : ((List.range 30).all fun k => (dueN (2 + 2 * k)).all fun p => decide (p < 64)) = true := by decide +kernel
/-! ## promises -/
def spShare : SpT := spF (fun x : Int × Nat => [.int x.1, .int x.2]) (fun x => x.1.natAbs < 2 ^ 2000 ∧ 0 < x.2 ∧ x.2 < 2 ^ 2000) fun x => encS (shN x.1 x.2)
def spGcd : SpT := spF (fun x : Int × Int => [.int x.1, .int x.2]) (fun x => x.1.natAbs < 2 ^ 2000 ∧ x.2.natAbs < 2 ^ 2000) fun x => .int (Int.gcd x.1 x.2 : Nat)
def spLGcd : SpT := spF (fun x : Int × Int => [.int x.1, .int x.2]) (fun _ => True) fun x => .int (Int.gcd x.1 x.2 : Nat)
def spPow : SpT := spF (fun x : Nat × Nat => [.int x.1, .int x.2]) (fun x => x.1 < 2 ^ 64 ∧ x.2 ≤ 64) fun x => .int (x.1 ^ x.2 : Nat)
def spCh : SpT := spF oneI (fun n => n ≤ 120) fun n => .lst (nats (chooseN n))
def spBernIn : SpT := spF oneI (fun n => n ≤ 60) fun n => .lst ((bTab.take (n + 1)).map encS)
def spBern : SpT := spF oneI (fun n => n ≤ 60) fun n => encS (bTab.getD n (0, 1))
def spFar : SpT := spF oneI (fun n => 0 < n ∧ n < 2 ^ 64) fun n => .lst ((farF n).map encP)
def spPB : SpT := spF oneI (fun n => n ≤ 60) fun n => .tup (nats (pbN n))
def spSum : SpT := spF (fun x : Nat × Nat => [.int x.1, .int x.2]) (fun x => x.1 ≤ 20 ∧ x.2 ≤ 1000000000) fun x => .int (sumP x.1 x.2 : Nat)
def intL (l : List Int) : List D := l.map D.int
def spDiff : SpT := spF (fun l : List Int => [.lst (intL l)]) (fun l => l.length ≤ 1000) fun l => .lst (intL (diffI l))
def spLeads : SpT := spF (fun l : List Int => [.lst (intL l)]) (fun l => l.length ≤ 1000) fun l => .lst (intL (leadsI l.length l))
def spChoose : SpT := spF (fun x : Nat × Nat => [.int x.1, .int x.2]) (fun x => x.1 < 2 ^ 62 ∧ x.2 ≤ 64) fun x => .int (bin x.1 x.2 : Nat)
def spVal : SpT := spF (fun x : List Int × Nat => [.lst (intL x.1), .int x.2]) (fun x => x.1.length ≤ 64 ∧ (∀ l ∈ x.1, l.natAbs < 2 ^ 512) ∧ x.2 < 2 ^ 62) fun x => .int (nv x.1 0 x.2)
def spPL : SpT := spF oneI (fun n => n ≤ 20) fun n => .lst (intL (plD n))
def spLFac : SpT := spF oneI (fun n => 0 < n ∧ n ≤ 62) fun n => .tup ((facT n).map encP)
end RL
set_option pp.deepTerms.threshold 6
set_option pp.maxSteps 3000
namespace RL
open PySem PySem.Spec PyProof.Rows L2 RK
/-! ## GEN -/
def spT : Nat → SpT
  | 0 => spFits
  | 1 => spNeed 26
  | 2 => spGcd
  | 3 => spPow
  | 4 => spCh
  | 5 => spShare
  | 6 => spBernIn
  | 7 => spBern
  | 8 => spFar
  | 9 => spPB
  | 10 => spSum
  | 11 => spDiff
  | 12 => spLeads
  | 13 => spChoose
  | 14 => spVal
  | 15 => spPow
  | 16 => spPL
  | 17 => spSum
  | 18 => spCup
  | 19 => spRoll
  | 20 => spSame 12
  | 21 => spLGcd
  | 22 => spLFac
  | 23 => spPow
  | 24 => spLaw
  | _ => fun _ _ _ => False
def ioT : Nat → Option Nat
  | 19 => some 0
  | _ => none
def frT : Nat → Bool
  | 18 => true
  | _ => false
def CC : Ct := ⟨spT, ioT, frT, gl⟩
theorem mono0 : SpMono CC := by
  intro f
  match f with
  | 0 => exact spF_mono
  | 1 => exact spNeed_mono
  | 2 => exact spF_mono
  | 3 => exact spF_mono
  | 4 => exact spF_mono
  | 5 => exact spF_mono
  | 6 => exact spF_mono
  | 7 => exact spF_mono
  | 8 => exact spF_mono
  | 9 => exact spF_mono
  | 10 => exact spF_mono
  | 11 => exact spF_mono
  | 12 => exact spF_mono
  | 13 => exact spF_mono
  | 14 => exact spF_mono
  | 15 => exact spF_mono
  | 16 => exact spF_mono
  | 17 => exact spF_mono
  | 18 => exact spCup_mono
  | 19 => exact spRoll_mono
  | 20 => exact spSame_mono
  | 21 => exact spF_mono
  | 22 => exact spF_mono
  | 23 => exact spF_mono
  | 24 => exact spLaw_mono
  | _ + 25 => exact fun _ _ _ _ _ _ _ h => h
theorem cd0 {ρ : En} {Q : R → En → Prop} {E : Xn → En → Prop} {rs : List R} : callD CC 0 rs ρ Q E = keepRs ρ rs fun ds ρ' => finD CC 0 E (fun _ => ρ') ρ' Q ds := u_cd rfl
theorem cd1 {ρ : En} {Q : R → En → Prop} {E : Xn → En → Prop} {rs : List R} : callD CC 1 rs ρ Q E = keepRs ρ rs fun ds ρ' => finD CC 1 E (fun _ => ρ') ρ' Q ds := u_cd rfl
theorem cd2 {ρ : En} {Q : R → En → Prop} {E : Xn → En → Prop} {rs : List R} : callD CC 2 rs ρ Q E = keepRs ρ rs fun ds ρ' => finD CC 2 E (fun _ => ρ') ρ' Q ds := u_cd rfl
theorem cd3 {ρ : En} {Q : R → En → Prop} {E : Xn → En → Prop} {rs : List R} : callD CC 3 rs ρ Q E = keepRs ρ rs fun ds ρ' => finD CC 3 E (fun _ => ρ') ρ' Q ds := u_cd rfl
theorem cd4 {ρ : En} {Q : R → En → Prop} {E : Xn → En → Prop} {rs : List R} : callD CC 4 rs ρ Q E = keepRs ρ rs fun ds ρ' => finD CC 4 E (fun _ => ρ') ρ' Q ds := u_cd rfl
theorem cd5 {ρ : En} {Q : R → En → Prop} {E : Xn → En → Prop} {rs : List R} : callD CC 5 rs ρ Q E = keepRs ρ rs fun ds ρ' => finD CC 5 E (fun _ => ρ') ρ' Q ds := u_cd rfl
theorem cd6 {ρ : En} {Q : R → En → Prop} {E : Xn → En → Prop} {rs : List R} : callD CC 6 rs ρ Q E = keepRs ρ rs fun ds ρ' => finD CC 6 E (fun _ => ρ') ρ' Q ds := u_cd rfl
theorem cd7 {ρ : En} {Q : R → En → Prop} {E : Xn → En → Prop} {rs : List R} : callD CC 7 rs ρ Q E = keepRs ρ rs fun ds ρ' => finD CC 7 E (fun _ => ρ') ρ' Q ds := u_cd rfl
theorem cd8 {ρ : En} {Q : R → En → Prop} {E : Xn → En → Prop} {rs : List R} : callD CC 8 rs ρ Q E = keepRs ρ rs fun ds ρ' => finD CC 8 E (fun _ => ρ') ρ' Q ds := u_cd rfl
theorem cd9 {ρ : En} {Q : R → En → Prop} {E : Xn → En → Prop} {rs : List R} : callD CC 9 rs ρ Q E = keepRs ρ rs fun ds ρ' => finD CC 9 E (fun _ => ρ') ρ' Q ds := u_cd rfl
theorem cd10 {ρ : En} {Q : R → En → Prop} {E : Xn → En → Prop} {rs : List R} : callD CC 10 rs ρ Q E = keepRs ρ rs fun ds ρ' => finD CC 10 E (fun _ => ρ') ρ' Q ds := u_cd rfl
theorem cd11 {ρ : En} {Q : R → En → Prop} {E : Xn → En → Prop} {rs : List R} : callD CC 11 rs ρ Q E = keepRs ρ rs fun ds ρ' => finD CC 11 E (fun _ => ρ') ρ' Q ds := u_cd rfl
theorem cd12 {ρ : En} {Q : R → En → Prop} {E : Xn → En → Prop} {rs : List R} : callD CC 12 rs ρ Q E = keepRs ρ rs fun ds ρ' => finD CC 12 E (fun _ => ρ') ρ' Q ds := u_cd rfl
theorem cd13 {ρ : En} {Q : R → En → Prop} {E : Xn → En → Prop} {rs : List R} : callD CC 13 rs ρ Q E = keepRs ρ rs fun ds ρ' => finD CC 13 E (fun _ => ρ') ρ' Q ds := u_cd rfl
theorem cd14 {ρ : En} {Q : R → En → Prop} {E : Xn → En → Prop} {rs : List R} : callD CC 14 rs ρ Q E = keepRs ρ rs fun ds ρ' => finD CC 14 E (fun _ => ρ') ρ' Q ds := u_cd rfl
theorem cd15 {ρ : En} {Q : R → En → Prop} {E : Xn → En → Prop} {rs : List R} : callD CC 15 rs ρ Q E = keepRs ρ rs fun ds ρ' => finD CC 15 E (fun _ => ρ') ρ' Q ds := u_cd rfl
theorem cd16 {ρ : En} {Q : R → En → Prop} {E : Xn → En → Prop} {rs : List R} : callD CC 16 rs ρ Q E = keepRs ρ rs fun ds ρ' => finD CC 16 E (fun _ => ρ') ρ' Q ds := u_cd rfl
theorem cd17 {ρ : En} {Q : R → En → Prop} {E : Xn → En → Prop} {rs : List R} : callD CC 17 rs ρ Q E = keepRs ρ rs fun ds ρ' => finD CC 17 E (fun _ => ρ') ρ' Q ds := u_cd rfl
theorem cd18 {ρ : En} {Q : R → En → Prop} {E : Xn → En → Prop} {rs : List R} : callD CC 18 rs ρ Q E = keepRs ρ rs fun ds ρ' => finD CC 18 E (fun _ => ρ') ρ' Q ds := u_cd rfl
theorem cd19 {ρ : En} {Q : R → En → Prop} {E : Xn → En → Prop} {i : Nat} {rest : List R} : callD CC 19 (.b i :: rest) ρ Q E = keepRs ρ rest fun ds ρ' => ioK CC 19 E i ρ'[i]? ρ' Q ds := u_cio rfl
theorem cd20 {ρ : En} {Q : R → En → Prop} {E : Xn → En → Prop} {rs : List R} : callD CC 20 rs ρ Q E = keepRs ρ rs fun ds ρ' => finD CC 20 E (fun _ => ρ') ρ' Q ds := u_cd rfl
theorem cd21 {ρ : En} {Q : R → En → Prop} {E : Xn → En → Prop} {rs : List R} : callD CC 21 rs ρ Q E = keepRs ρ rs fun ds ρ' => finD CC 21 E (fun _ => ρ') ρ' Q ds := u_cd rfl
theorem cd22 {ρ : En} {Q : R → En → Prop} {E : Xn → En → Prop} {rs : List R} : callD CC 22 rs ρ Q E = keepRs ρ rs fun ds ρ' => finD CC 22 E (fun _ => ρ') ρ' Q ds := u_cd rfl
theorem cd23 {ρ : En} {Q : R → En → Prop} {E : Xn → En → Prop} {rs : List R} : callD CC 23 rs ρ Q E = keepRs ρ rs fun ds ρ' => finD CC 23 E (fun _ => ρ') ρ' Q ds := u_cd rfl
theorem cd24 {ρ : En} {Q : R → En → Prop} {E : Xn → En → Prop} {rs : List R} : callD CC 24 rs ρ Q E = keepRs ρ rs fun ds ρ' => finD CC 24 E (fun _ => ρ') ρ' Q ds := u_cd rfl
theorem gl_BERNOULLI : CC.gl (Str.ofString "BERNOULLI") = some (.int 60) := by
  show (List.lookup (Str.ofString "BERNOULLI") glI).map D.int = _
  rw [show List.lookup (Str.ofString "BERNOULLI") glI = some 60 from by decide +kernel]; rfl
theorem gl_FORM : CC.gl (Str.ofString "FORM") = some (.int 20) := by
  show (List.lookup (Str.ofString "FORM") glI).map D.int = _
  rw [show List.lookup (Str.ofString "FORM") glI = some 20 from by decide +kernel]; rfl
theorem gl_GREAT : CC.gl (Str.ofString "GREAT") = some (.int 1000000000000) := by
  show (List.lookup (Str.ofString "GREAT") glI).map D.int = _
  rw [show List.lookup (Str.ofString "GREAT") glI = some 1000000000000 from by decide +kernel]; rfl
theorem gl_POWER : CC.gl (Str.ofString "POWER") = some (.int 20) := by
  show (List.lookup (Str.ofString "POWER") glI).map D.int = _
  rw [show List.lookup (Str.ofString "POWER") glI = some 20 from by decide +kernel]; rfl
theorem gl_MANY : CC.gl (Str.ofString "MANY") = some (.int 1000000000) := by
  show (List.lookup (Str.ofString "MANY") glI).map D.int = _
  rw [show List.lookup (Str.ofString "MANY") glI = some 1000000000 from by decide +kernel]; rfl
local macro_rules | `(tactic| array_get_dec) => `(tactic| try simp -dsimp only [↓RK.u_nil, ↓RK.u_cons, ↓RK.u_asg, ↓RK.u_par, ↓RK.u_aug, ↓RK.u_agK_i, ↓RK.u_agK_o, ↓RK.u_agI_a, ↓RK.u_agI_s, ↓RK.u_agL, ↓RK.u_sti, ↓RK.u_stiK_ow, ↓RK.u_stK_o, ↓RK.u_stK_i, ↓RK.u_ex, ↓RK.u_ifs, ↓RK.u_whil, ↓RK.u_for, ↓RK.u_forO, ↓RK.u_foK_o, ↓RK.u_itO0, ↓RK.u_itO1, ↓RK.u_ret, ↓RK.u_brk, ↓RK.u_cnt, ↓RK.u_pass, ↓RK.u_rai, ↓RK.u_fg, ↓RK.u_br1, ↓RK.u_br0, ↓RK.u_brE1, ↓RK.u_brE0, ↓RK.u_brT1, ↓RK.u_brT0, ↓RK.u_brF1, ↓RK.u_brF0, ↓RK.u_an1, ↓RK.u_an0, ↓RK.u_or1, ↓RK.u_or0, ↓RK.u_c21, ↓RK.u_c20, ↓RK.u_ts1, ↓RK.u_ts0, ↓RK.u_el1, ↓RK.u_el0, ↓RK.u_v, ↓RK.u_vK_v, ↓RK.u_vK_o, ↓RK.u_vK_i, ↓RK.u_c, ↓RK.u_g, ↓RK.u_gK, ↓RK.u_bin, ↓RK.u_neg, ↓RK.u_ngK, ↓RK.u_cmp, ↓RK.u_cmp2, ↓RK.u_and, ↓RK.u_or, ↓RK.u_not, ↓RK.u_ntK, ↓RK.u_ite, ↓RK.u_tup, ↓RK.u_lst, ↓RK.u_call, ↓RK.u_bi, ↓RK.u_isi, ↓RK.u_isK, ↓RK.u_idx, ↓RK.u_comp, ↓RK.u_slc, ↓RK.u_t_slc, ↓RK.u_izip, ↓RK.u_ienum, ↓RK.u_rev, ↓RK.u_rgv, ↓RK.u_meth, ↓RK.u_rs0, ↓RK.u_rs1, ↓RK.u_tAnd, ↓RK.u_tOr, ↓RK.u_tNot, ↓RK.u_tk, ↓RK.u_t_v, ↓RK.u_t_c, ↓RK.u_t_g, ↓RK.u_t_bin, ↓RK.u_t_cmp, ↓RK.u_t_cmp2, ↓RK.u_t_call, ↓RK.u_t_bi, ↓RK.u_t_isi, ↓RK.u_t_idx, ↓RK.u_t_meth, ↓RK.u_t_comp, ↓RK.u_ts_nil, ↓RK.u_ts_cons, ↓RK.u_ie, ↓RK.u_irng, ↓RK.u_kv, ↓RK.u_kf, ↓RK.u_kb, ↓RK.u_kbK_v, ↓RK.u_kbK_o, ↓RK.u_ks0, ↓RK.u_ks1, ↓RK.u_kBv, ↓RK.u_kBf, ↓RK.u_kBb, ↓RK.u_kBs0, ↓RK.u_kBs1, ↓RK.u_sR0, ↓RK.u_sR1, ↓RK.u_as0, ↓RK.u_as1, ↓RK.u_slv, ↓RK.u_slf, ↓RK.u_tv, ↓RK.u_tf, ↓RK.u_tb, ↓RK.u_tt, ↓RK.u_tl, ↓RK.u_tfl, ↓RK.u_gv, ↓RK.u_gf, ↓RK.u_gb, ↓RK.u_gs1, ↓RK.u_gs2, ↓RK.u_gs3, ↓RK.u_body, ↓RK.u_io_o, ↓RK.u_io_i, ↓RK.v_add_i, ↓RK.v_add_s, ↓RK.v_add_l, ↓RK.v_add_t, ↓RK.v_sub, ↓RK.v_mul, ↓RK.v_mul_l, ↓RK.v_fdiv, ↓RK.v_fdn, ↓RK.v_mod, ↓RK.v_pow, ↓RK.v_lt, ↓RK.v_le, ↓RK.v_gt, ↓RK.v_ge, ↓RK.v_eq_i, ↓RK.v_ne_i, ↓RK.v_eq_b, ↓RK.v_ne_b, ↓RK.v_eq_l, ↓RK.v_eq_t, ↓RK.v_ne_l, ↓RK.v_ne_t, ↓RK.v_eq_s, ↓RK.v_ne_s, ↓RK.v_is_b, ↓RK.v_is_nn, ↓RK.v_is_bn, ↓RK.v_is_in, ↓RK.v_is_sn, ↓RK.v_is_tn, ↓RK.v_is_ln, ↓RK.v_isn_b, ↓RK.v_isn_nn, ↓RK.v_isn_bn, ↓RK.v_isn_in, ↓RK.v_isn_sn, ↓RK.v_isn_tn, ↓RK.v_isn_ln, ↓RK.v_in_l, ↓RK.v_nin_l, ↓RK.v_in_t, ↓RK.v_nin_t, ↓RK.v_len_l, ↓RK.v_len_t, ↓RK.v_len_s, ↓RK.v_abs, ↓RK.v_int_i, ↓RK.v_int_b, ↓RK.v_str_i, ↓RK.v_tup_l, ↓RK.v_tup_t, ↓RK.v_lst_l, ↓RK.v_lst_t, ↓RK.v_lst_s, ↓RK.v_sum, ↓RK.v_sorted, ↓RK.v_sumT, ↓RK.v_sortedT, ↓RK.v_sortT, ↓RK.v_min2, ↓RK.v_max2, ↓RK.v_min, ↓RK.v_max, ↓RK.v_ix0, ↓RK.v_ix1, ↓RK.v_ix2, ↓RK.v_tx0, ↓RK.v_tx1, ↓RK.v_tx2, ↓RK.v_rng1, ↓RK.v_rng2, ↓RK.v_rng3, ↓RK.v_all, ↓RK.v_any, ↓RK.v_str_s, ↓RK.v_slc_l, ↓RK.v_slc_t, ↓RK.v_opt0, ↓RK.v_opt1, ↓RK.v_zip_l, ↓RK.v_zip_t, ↓RK.v_enum_l, ↓RK.v_enum_t, ↓RK.v_mul_t, ↓RK.v_rev, ↓RK.v_rgt1, ↓RK.v_rgl1, ↓RK.v_rgt2, ↓RK.v_rgl2, ↓RK.v_items_l, ↓RK.v_items_t, ↓RK.v_tru_n, ↓RK.v_tru_b, ↓RK.v_tru_i, ↓RK.v_tru_t, ↓RK.v_tru_l, ↓RK.v_isi_non_int, ↓RK.v_isi_non_bool, ↓RK.v_isi_non_tuple, ↓RK.v_isi_non_list, ↓RK.v_isi_non_str, ↓RK.v_isi_bl_int, ↓RK.v_isi_bl_bool, ↓RK.v_isi_bl_tuple, ↓RK.v_isi_bl_list, ↓RK.v_isi_bl_str, ↓RK.v_isi_int_int, ↓RK.v_isi_int_bool, ↓RK.v_isi_int_tuple, ↓RK.v_isi_int_list, ↓RK.v_isi_int_str, ↓RK.v_isi_str_int, ↓RK.v_isi_str_bool, ↓RK.v_isi_str_tuple, ↓RK.v_isi_str_list, ↓RK.v_isi_str_str, ↓RK.v_isi_tup_int, ↓RK.v_isi_tup_bool, ↓RK.v_isi_tup_tuple, ↓RK.v_isi_tup_list, ↓RK.v_isi_tup_str, ↓RK.v_isi_lst_int, ↓RK.v_isi_lst_bool, ↓RK.v_isi_lst_tuple, ↓RK.v_isi_lst_list, ↓RK.v_isi_lst_str, ↓RK.v_nio0, ↓RK.v_nio1, ↓RK.v_fr_no, ↓RK.v_fr_v, ↓RK.v_fr_ow, ↓RK.v_sx0, ↓RK.v_sx1, ↓RK.v_app, ↓RK.v_apK, ↓RK.v_rem, ↓RK.v_rmK, ↓RK.v_pat, ↓RK.v_paK, ↓RK.v_cnt, ↓RK.v_cntD, ↓RK.v_pop, ↓RK.v_poK, RK.isL, RK.Lt.d, List.getElem?_cons_zero, List.getElem?_cons_succ, List.set_cons_zero, List.set_cons_succ, List.map_cons, List.map_nil, RK.fgE, RK.fg1, RK.wipeE, RK.backE, RK.isOwn, List.forall_mem_cons, List.not_mem_nil, false_imp_iff, implies_true, List.length_cons, List.length_nil, Bool.not_true, Bool.not_false, and_true, true_and, ↓reduceIte, RK.intsD, RK.flatD, decide_true, decide_false, Bool.false_eq_true, reduceCtorEq, ↓RL.cd0, ↓RL.cd1, ↓RL.cd2, ↓RL.cd3, ↓RL.cd4, ↓RL.cd5, ↓RL.cd6, ↓RL.cd7, ↓RL.cd8, ↓RL.cd9, ↓RL.cd10, ↓RL.cd11, ↓RL.cd12, ↓RL.cd13, ↓RL.cd14, ↓RL.cd15, ↓RL.cd16, ↓RL.cd17, ↓RL.cd18, ↓RL.cd19, ↓RL.cd20, ↓RL.cd21, ↓RL.cd22, ↓RL.cd23, ↓RL.cd24, RL.gl_BERNOULLI, RL.gl_FORM, RL.gl_GREAT, RL.gl_POWER, RL.gl_MANY])
local macro_rules | `(tactic| array_mem_dec) => `(tactic| first | omega | decide | exact RK.sz (by omega) | exact RK.szl (by omega) | exact RK.sz (by simp only [List.length_append, List.length_cons, List.length_nil, List.length_map, List.length_range, List.length_replicate, RK.nats_len, RK.pil_len, List.length_nil]; omega) | exact RK.szl (by simp only [List.length_append, List.length_cons, List.length_nil, List.length_map, List.length_range, List.length_replicate, RK.nats_len, RK.pil_len, List.length_nil]; omega) | exact RK.cdiv (by omega) (by omega) | exact RK.mulR (by omega) (by omega) | exact RK.mulL (by omega) (by omega) | exact ⟨by omega, by omega⟩ | exact ⟨by decide, by decide, by decide⟩ | exact RK.eok_nil | assumption)
local macro_rules | `(tactic| sizeOf_list_dec) => `(tactic| (array_get_dec; repeat (refine And.intro (by array_mem_dec) ?_)))
/-! ## the walks -/
theorem absD (i : Int) : (if i < 0 then -i else i) = (i.natAbs : Int) := by split <;> omega
theorem maxD (i : Int) : (if -i > i then -i else i) = (i.natAbs : Int) := by split <;> omega
theorem ne_of_len {l : List Nat} (h : 0 < l.length) : l ≠ [] := fun z => by rw [z] at h; cases h
theorem big_mul {i j : Int} (h1 : i.natAbs < 2 ^ 4200) (h2 : j.natAbs < 2 ^ 4200) : RK.MulOk i j := .inr (mulx_ok h1 h2 (by decide))
theorem big_div {i j : Int} (h0 : 0 < j) (h : j.natAbs < 2 ^ 4200) : CDivW i j := wide_div h0 h (by decide) (by decide)
theorem wp_gcd (ds : List D) (Qd : D → List D → Prop) (Ed : Xn → Prop) (h : spGcd ds Qd Ed) :
    ds.length = 2 ∧ RK.wSs CC (fun x _ => Ed x) ir2 (deOf false false Qd) (startE 2 false ds) := by
  obtain ⟨⟨i, j⟩, rfl, ⟨ha, hb⟩, h⟩ := h
  refine ⟨rfl, ?_⟩
  replace ha : i.natAbs < 2 ^ 2000 := ha
  replace hb : j.natAbs < 2 ^ 2000 := hb
  have h : Qd (.int (Nat.gcd i.natAbs j.natAbs : Nat)) [] := h
  show RK.wSs CC (fun x _ => Ed x) ir2 (deOf false false Qd) [.v (.int i), .v (.int j)]
  unfold ir2
  sizeOf_list_dec
  have h42 : 2 ^ 2000 < 2 ^ 4200 := Nat.pow_lt_pow_right (by decide) (by decide)
  refine whl_inv (fun m ρ => ∃ a b : Nat, ρ = [.v (.int a), .v (.int b)] ∧ m = b ∧ Nat.gcd a b = Nat.gcd i.natAbs j.natAbs ∧ a < 2 ^ 4200 ∧ b < 2 ^ 4200) j.natAbs ⟨i.natAbs, j.natAbs, by simp only [absD], rfl, rfl, Nat.lt_trans ha h42, Nat.lt_trans hb h42⟩ ?_
  rintro m ρ ⟨a, b, rfl, rfl, hg, ha, hb⟩
  array_get_dec
  refine brK_by (fun hc => ?_) fun hc => ?_
  · rw [decide_eq_true_eq] at hc
    have hc : 0 < m := by omega
    array_get_dec
    have q : (a : Int) / (m : Int) = ((a / m : Nat) : Int) := (Int.natCast_ediv _ _).symm
    refine ⟨big_div (by omega) hb, big_mul (by rw [q, Int.natAbs_natCast]; exact Nat.lt_of_le_of_lt (Nat.div_le_self _ _) ha) hb, ?_⟩
    have : (a : Int) - (a : Int) / (m : Int) * (m : Int) = ((a % m : Nat) : Int) := by
      rw [Int.natCast_emod, Int.emod_def, Int.mul_comm]
    refine ⟨a % m, Nat.mod_lt _ hc, m, a % m, ?_, rfl, ?_, hb, Nat.lt_trans (Nat.mod_lt a hc) hb⟩
    · rw [this]
    · rw [← hg, Nat.gcd_comm m, ← Nat.gcd_rec, Nat.gcd_comm]
  · rw [decide_eq_false_iff_not] at hc
    have hc : m = 0 := by omega
    subst hc
    rw [Nat.gcd_zero_right] at hg
    subst hg
    array_get_dec
    exact h
theorem wp_lgcd (ds : List D) (Qd : D → List D → Prop) (Ed : Xn → Prop) (h : spLGcd ds Qd Ed) :
    ds.length = 2 ∧ RK.wSs CC (fun x _ => Ed x) ir21 (deOf false false Qd) (startE 2 false ds) := by
  obtain ⟨⟨i, j⟩, rfl, _, h⟩ := h
  refine ⟨rfl, ?_⟩
  have h : Qd (.int (Nat.gcd i.natAbs j.natAbs : Nat)) [] := h
  show RK.wSs CC (fun x _ => Ed x) ir21 (deOf false false Qd) [.v (.int i), .v (.int j)]
  unfold ir21
  sizeOf_list_dec
  refine whl_inv (fun m ρ => ∃ a b : Nat, ρ = [.v (.int a), .v (.int b)] ∧ m = b ∧ Nat.gcd a b = Nat.gcd i.natAbs j.natAbs) j.natAbs ⟨i.natAbs, j.natAbs, by simp only [maxD], rfl, rfl⟩ ?_
  rintro m ρ ⟨a, b, rfl, rfl, hg⟩
  array_get_dec
  refine brK_by (fun hc => ?_) fun hc => ?_
  · rw [decide_eq_true_eq] at hc
    have hc : 0 < m := by omega
    sizeOf_list_dec
    refine ⟨a % m, Nat.mod_lt _ hc, m, a % m, by rw [Int.natCast_emod], rfl, ?_⟩
    rw [← hg, Nat.gcd_comm m, ← Nat.gcd_rec, Nat.gcd_comm]
  · rw [decide_eq_false_iff_not] at hc
    have hc : m = 0 := by omega
    subst hc
    rw [Nat.gcd_zero_right] at hg
    subst hg
    array_get_dec
    exact h
theorem wp_pow3 (ds : List D) (Qd : D → List D → Prop) (Ed : Xn → Prop) (h : spPow ds Qd Ed) :
    ds.length = 2 ∧ RK.wSs CC (fun x _ => Ed x) ir3 (deOf false false Qd) (startE 4 false ds) := by
  obtain ⟨⟨n, k⟩, rfl, ⟨hn, hk⟩, h⟩ := h
  replace hn : n < 2 ^ 64 := hn
  replace hk : k ≤ 64 := hk
  replace h : Qd (.int (n ^ k : Nat)) [] := h
  refine ⟨rfl, ?_⟩
  show RK.wSs CC (fun x _ => Ed x) ir3 (deOf false false Qd) [.v (.int n), .v (.int k), .no, .no]
  unfold ir3
  sizeOf_list_dec
  rw [Int.toNat_natCast]
  refine for_inv (fun i ρ => ρ = [.v (.int n), .v (.int k), .v (.int (n ^ i : Nat)), .no]) rfl ?_ ?_
  · rintro i d ρ k' hd rfl hk'
    have hk' := hk' _ rfl
    rw [Nat.pow_succ, Int.natCast_mul] at hk'
    sizeOf_list_dec
    exact hk'
  · rintro ρ rfl
    rw [List.length_map, List.length_range]
    sizeOf_list_dec
    exact h
theorem wp_pow15 (ds : List D) (Qd : D → List D → Prop) (Ed : Xn → Prop) (h : spPow ds Qd Ed) :
    ds.length = 2 ∧ RK.wSs CC (fun x _ => Ed x) ir15 (deOf false false Qd) (startE 4 false ds) := wp_pow3 ds Qd Ed h
theorem wp_pow23 (ds : List D) (Qd : D → List D → Prop) (Ed : Xn → Prop) (h : spPow ds Qd Ed) :
    ds.length = 2 ∧ RK.wSs CC (fun x _ => Ed x) ir23 (deOf false false Qd) (startE 4 false ds) := wp_pow3 ds Qd Ed h
theorem wp_ch (ds : List D) (Qd : D → List D → Prop) (Ed : Xn → Prop) (h : spCh ds Qd Ed) :
    ds.length = 1 ∧ RK.wSs CC (fun x _ => Ed x) ir4 (deOf false false Qd) (startE 3 false ds) := by
  obtain ⟨n, rfl, hn, h⟩ := h
  refine ⟨rfl, ?_⟩
  show RK.wSs CC (fun x _ => Ed x) ir4 (deOf false false Qd) [.v (.int n), .no, .no]
  have h : Qd (.lst (nats (chooseN n))) [] := h
  unfold ir4
  sizeOf_list_dec
  rw [Int.toNat_natCast]
  refine for_rng (s0 := [1]) (stC n) (fun f => [.v (.int n), .ow (nats f), .no]) (fun i f => f.length = i + 1) (by rfl) ?_ ?_
  · intro i f k hf hi hk
    array_get_dec
    refine idx_natsL (ne_of_len (by omega)) ?_
    have hl : (nats f).length ≤ 200 := by rw [nats_len]; omega
    sizeOf_list_dec
    have e : ((f.getLastD 0 : Nat) : Int) * ((n : Int) - (i : Int)) / ((i : Int) + 1) = ((f.getLastD 0 * (n - i) / (i + 1) : Nat) : Int) := by
      rw [Int.natCast_ediv, Int.natCast_mul, Int.natCast_sub (by omega), Int.natCast_add]; rfl
    rw [e, nats_snoc]
    exact hk (by show (f ++ [_]).length = _; rw [List.length_append, hf]; rfl)
  · intro _
    array_get_dec
    exact h
theorem wp_share (ds : List D) (Qd : D → List D → Prop) (Ed : Xn → Prop) (h : spShare ds Qd Ed) :
    ds.length = 2 ∧ RK.wSs CC (fun x _ => Ed x) ir5 (deOf false false Qd) (startE 3 false ds) := by
  obtain ⟨⟨a, b⟩, rfl, ⟨ha, hb0, hb⟩, h⟩ := h
  replace ha : a.natAbs < 2 ^ 2000 := ha
  replace hb0 : 0 < b := hb0
  replace hb : b < 2 ^ 2000 := hb
  have h42 : 2 ^ 2000 < 2 ^ 4200 := Nat.pow_lt_pow_right (by decide) (by decide)
  refine ⟨rfl, ?_⟩
  replace h : Qd (encS (shN a b)) [] := h
  show RK.wSs CC (fun x _ => Ed x) ir5 (deOf false false Qd) [.v (.int a), .v (.int b), .no]
  have q0 : 0 < Int.gcd a (b : Int) := Nat.gcd_pos_of_pos_right _ hb0
  have q1 : Int.gcd a (b : Int) ≤ b := Nat.gcd_le_right _ hb0
  unfold ir5
  array_get_dec
  refine use_F (f' := fun x : Int × Int => [.int x.1, .int x.2]) rfl rfl (a, (b : Int)) rfl ⟨ha, hb⟩ ?_
  array_get_dec
  rw [decide_eq_true (show (0 : Int) < (b : Int) by omega)]
  array_get_dec
  rw [Int.mul_one]
  have gl : (Int.gcd a (b : Int)) < 2 ^ 4200 := Nat.lt_of_le_of_lt q1 (Nat.lt_trans hb h42)
  refine ⟨big_mul (by rw [Int.natAbs_natCast]; exact gl) (Nat.lt_of_lt_of_le (show (1 : Int).natAbs < 2 ^ 1 by decide) (Nat.pow_le_pow_right (by decide) (by decide))), big_div (by omega) (by rw [Int.natAbs_natCast]; exact gl), big_div (by omega) (by rw [Int.natAbs_natCast]; exact gl), by decide, ?_⟩
  have e : encS (shN a b) = .tup [.int (a / (Int.gcd a (b : Int) : Nat)), .int ((b : Int) / (Int.gcd a (b : Int) : Nat))] := by
    show D.tup [.int (a / (Int.gcd a (b : Int) : Nat)), .int ((b / Int.gcd a (b : Int) : Nat) : Int)] = _
    rw [Int.natCast_ediv]
  rw [e] at h
  exact h
theorem bScan {k : Nat} (hk : k < 60) : scan (bsT (chooseN (k + 2))) big (bIn k) (0, 1) = true ∧ shN (-((bIn k).foldl (bsT (chooseN (k + 2))) (0, 1)).1) (((bIn k).foldl (bsT (chooseN (k + 2))) (0, 1)).2 * (k + 2)) = bTab.getD (k + 1) (0, 1) := by
  have h := List.all_eq_true.mp b_ok k (List.mem_range.mpr hk)
  rw [Bool.and_eq_true] at h
  exact ⟨h.1, of_decide_eq_true h.2⟩
theorem bt {x : Sh} (h : x ∈ bTab) : x.1.natAbs < 2 ^ 256 ∧ 0 < x.2 ∧ x.2 < 2 ^ 64 ∧ Int.gcd x.1 x.2 = 1 := by
  have h := List.all_eq_true.mp b_tab x h
  simp only [big, Bool.and_eq_true, decide_eq_true_eq] at h
  exact ⟨h.1.1.2, h.1.1.1.2.1, h.1.2, h.2⟩
theorem bgt {n : Nat} (h : n ≤ 60) : bTab.getD n (0, 1) ∈ bTab := by
  have hl : bTab.length = 61 := by decide
  rw [List.getD_eq_getElem?_getD, List.getElem?_eq_getElem (by omega)]
  exact List.getElem_mem _
theorem idx_map {α : Type} {l : List α} {e : α → D} {s : Nat} {a0 : α} {QD : D → Prop} (h : s < l.length) (q : QD (e (l.getD s a0))) : idxD (.lst (l.map e)) (.int s) QD := by
  refine ⟨_, RK.atI_nat ?_, q⟩
  rw [List.getElem?_map, List.getElem?_eq_getElem h, List.getD_eq_getElem?_getD, List.getElem?_eq_getElem h]; rfl
theorem rng1 (n : Nat) : (List.range ((n : Int) + 1 - 1).toNat).map (fun k : Nat => D.int (1 + (k : Int))) = (List.range n).map fun k : Nat => D.int ((1 + k : Nat) : Int) := by
  rw [show ((n : Int) + 1 - 1).toNat = n by omega]
  apply List.map_congr_left
  intro k _
  congr 1
theorem len_ch (n : Nat) : (chooseN n).length = n + 1 := by
  unfold chooseN
  have : ∀ m, ((List.range m).foldl (stC n) [1]).length = m + 1 := by
    intro m
    induction m with
    | zero => rfl
    | succ m ih => rw [List.range_succ, List.foldl_append]; show (_ ++ [_]).length = _; rw [List.length_append, ih]; rfl
  exact this n
theorem ch_all : ((List.range 63).all fun n => (chooseN n).all fun x => decide (x < 2 ^ 64)) = true := by decide +kernel
theorem ch_big {n : Nat} (h : n < 63) (j : Nat) : (chooseN n).getD j 0 < 2 ^ 64 := by
  have h1 := List.all_eq_true.mp ch_all n (List.mem_range.mpr h)
  rw [List.getD_eq_getElem?_getD]
  cases e : (chooseN n)[j]? with
  | none => decide
  | some x => exact of_decide_eq_true (List.all_eq_true.mp h1 x (List.mem_of_getElem? e))
theorem big_iff {t : Sh} : big t = true ↔ t.1.natAbs < 2 ^ 512 ∧ 0 < t.2 ∧ t.2 < 2 ^ 512 := by
  unfold big
  rw [Bool.and_eq_true, Bool.and_eq_true, decide_eq_true_eq, decide_eq_true_eq, decide_eq_true_eq]
theorem mulB {x y : Int} {a b c : Nat} (h1 : x.natAbs < 2 ^ a) (h2 : y.natAbs < 2 ^ b) (h : a + b ≤ c) : (x * y).natAbs < 2 ^ c := by
  rw [Int.natAbs_mul]
  have : x.natAbs * y.natAbs < 2 ^ a * 2 ^ b := Nat.mul_lt_mul'' h1 h2
  rw [← Nat.pow_add] at this
  exact Nat.lt_of_lt_of_le this (Nat.pow_le_pow_right (by decide) h)
theorem addB {x y : Int} {a b c : Nat} (h1 : x.natAbs < 2 ^ a) (h2 : y.natAbs < 2 ^ b) (h : max a b + 1 ≤ c) : (x + y).natAbs < 2 ^ c := by
  have e1 : 2 ^ a ≤ 2 ^ max a b := Nat.pow_le_pow_right (by decide) (Nat.le_max_left _ _)
  have e2 : 2 ^ b ≤ 2 ^ max a b := Nat.pow_le_pow_right (by decide) (Nat.le_max_right _ _)
  have e3 : 2 ^ (max a b + 1) ≤ 2 ^ c := Nat.pow_le_pow_right (by decide) h
  rw [Nat.pow_succ] at e3
  have := Int.natAbs_add_le x y
  omega
theorem for_scanO {C : Ct} {E : Xn → En → Prop} {D : DE} {S α : Type} {t : Tg} {a : List Sm} {i : Nat} {ds : List RK.D} (f : S → α → S) (enc : S → En) (henc : ∀ s, (enc s)[i]? = some (.io ds)) (ok : S → Bool) {xs : List α} {e : α → RK.D} {s0 : S} (h0 : scan f ok xs s0 = true)
    (hb : ∀ s x k, ok s = true → ok (f s x) = true → x ∈ xs → k (enc (f s x)) → asgT t (.v (e x)) (enc s) fun ρ3 => RK.wSs C (fun x ρ' => E x (ρ'.set i .no)) a ⟨k, RK.rtO D i, fun ρ' => ρ'[i]? = some (.io ds) ∧ D.nx (ρ'.set i (.ow ds)), k⟩ ρ3) (hn : ok (xs.foldl f s0) = true → D.nx ((enc (xs.foldl f s0)).set i (.ow ds))) : RK.forOK C E t a i ds D (xs.map e) (enc s0) := by
  have hb' : ∀ s x k, scan f ok [x] s = true → x ∈ xs → k (enc (f s x)) → asgT t (.v (e x)) (enc s) fun ρ3 => RK.wSs C (fun x ρ' => E x (ρ'.set i .no)) a ⟨k, RK.rtO D i, fun ρ' => ρ'[i]? = some (.io ds) ∧ D.nx (ρ'.set i (.ow ds)), k⟩ ρ3 := fun s x k h hx hk => by
    have h : (ok s && ok (f s x)) = true := h
    rw [Bool.and_eq_true] at h
    exact hb s x k h.1 h.2 hx hk
  clear hb
  unfold RK.forOK
  induction xs generalizing s0 with
  | nil => exact ⟨henc _, hn h0⟩
  | cons x xs ih =>
    have h : (ok s0 && scan f ok xs (f s0 x)) = true := h0
    rw [Bool.and_eq_true] at h
    have o1 : ok (f s0 x) = true := by
      cases xs with
      | nil => exact h.2
      | cons y ys =>
        have h2 : (ok (f s0 x) && _) = true := h.2
        rw [Bool.and_eq_true] at h2
        exact h2.1
    exact ⟨henc _, hb' s0 x _ (by show (ok s0 && ok (f s0 x)) = true; rw [h.1, o1]; rfl) (.head _) (ih h.2 hn fun s y k h hy hk => hb' s y k h (.tail _ hy) hk)⟩
theorem ush {E : Xn → En → Prop} {kf : List D → En} {ρ' : En} {Q : R → En → Prop} (a : Int) (b : Nat) (h1 : a.natAbs < 2 ^ 2000) (h2 : 0 < b) (h3 : b < 2 ^ 2000) (q : Q (.v (encS (shN a b))) (kf [])) : finD CC 5 E kf ρ' Q [.int a, .int (b : Nat)] := use_F (f' := fun x : Int × Nat => [.int x.1, .int x.2]) rfl rfl (a, b) rfl ⟨h1, h2, h3⟩ q
theorem wp_bernin (ds : List D) (Qd : D → List D → Prop) (Ed : Xn → Prop) (h : spBernIn ds Qd Ed) :
    ds.length = 1 ∧ RK.wSs CC (fun x _ => Ed x) ir6 (deOf false false Qd) (startE 7 false ds) := by
  obtain ⟨n, rfl, hn, h⟩ := h
  refine ⟨rfl, ?_⟩
  replace hn : n ≤ 60 := hn
  replace h : Qd (.lst ((bTab.take (n + 1)).map encS)) [] := h
  show RK.wSs CC (fun x _ => Ed x) ir6 (deOf false false Qd) [.v (.int n), .no, .no, .no, .no, .no, .no]
  have hl : bTab.length = 61 := by decide
  unfold ir6
  sizeOf_list_dec
  rw [rng1 n]
  refine for_inv (fun i ρ => ρ = [.v (.int n), .ow ((bTab.take (i + 1)).map encS), .no, .no, .no, .no, .no]) rfl ?_ ?_
  · rintro i d ρ k hd rfl hk
    have hi := (List.getElem?_eq_some_iff.mp hd).1
    rw [List.length_map, List.length_range] at hi
    have hd : d = .int ((1 + i : Nat) : Int) := by
      rw [List.getElem?_map, List.getElem?_range hi] at hd
      cases hd; rfl
    subst hd
    obtain ⟨b1, b2⟩ := bScan (show i < 60 by omega)
    have hk := hk _ rfl
    have tk : bTab.take (i + 1 + 1) = bTab.take (i + 1) ++ [bTab.getD (i + 1) (0, 1)] := by
      rw [List.take_add_one, List.getD_eq_getElem?_getD, List.getElem?_eq_getElem (by omega)]; rfl
    rw [tk, List.map_append, ← b2] at hk
    sizeOf_list_dec
    refine use_F (f' := oneI) rfl rfl (i + 2) (by show [D.int _] = [D.int _]; congr 2; omega) (by show i + 2 ≤ 120; omega) ?_
    sizeOf_list_dec
    rw [enum_map]
    refine for_scanO (bsT (chooseN (i + 2))) (fun t => [.v (.int n), .io ((bTab.take (i + 1)).map encS), .v (.int ((1 + i : Nat) : Int)), .v (.lst (nats (chooseN (i + 2)))), .v (encS t), .no, .no]) (fun _ => rfl) big (s0 := (0, 1)) b1 ?_ ?_
    · rintro t ⟨j, x⟩ k o1 o2 hx hk
      have hm := enumN_mem _ _ _ hx
      obtain ⟨x1, x2, x3, _⟩ := bt (List.mem_of_mem_take hm.2.2)
      have jl : j < (chooseN (i + 2)).length := by rw [len_ch]; have := hm.2.1; rw [List.length_take] at this; show j < _; omega
      have rb := ch_big (show i + 2 < 63 by omega) j
      obtain ⟨o11, o12, o13⟩ := big_iff.mp o1
      replace hk : k [.v (.int n), .io ((bTab.take (i + 1)).map encS), .v (.int ((1 + i : Nat) : Int)), .v (.lst (nats (chooseN (i + 2)))), .v (encS (shN (t.1 * x.2 + (((chooseN (i + 2)).getD j 0 : Nat) : Int) * x.1 * t.2) (t.2 * x.2))), .no, .no] := hk
      replace x1 : x.1.natAbs < 2 ^ 256 := x1
      replace x2 : 0 < x.2 := x2
      replace x3 : x.2 < 2 ^ 64 := x3
      show asgT _ (.v (.tup [.int (j : Nat), encS x])) [_, _, _, _, .v (encS t), _, _] _
      simp only [encS]
      sizeOf_list_dec
      refine idx_nats jl ?_
      generalize (chooseN (i + 2)).getD j 0 = w at *
      have m1 : (t.1 * (x.2 : Int)).natAbs < 2 ^ 600 := mulB (a := 512) (b := 64) o11 (by rw [Int.natAbs_natCast]; exact x3) (by decide)
      have m2 : ((w : Int) * x.1).natAbs < 2 ^ 320 := mulB (a := 64) (b := 256) (by rw [Int.natAbs_natCast]; exact rb) x1 (by decide)
      have m3 : ((w : Int) * x.1 * (t.2 : Int)).natAbs < 2 ^ 900 := mulB (a := 320) (b := 512) m2 (by rw [Int.natAbs_natCast]; exact o13) (by decide)
      have m4 : (t.1 * (x.2 : Int) + (w : Int) * x.1 * (t.2 : Int)).natAbs < 2 ^ 2000 := addB (a := 900) (b := 900) (Nat.lt_of_lt_of_le m1 (Nat.pow_le_pow_right (by decide) (by decide))) m3 (by decide)
      have m5 : t.2 * x.2 < 2 ^ 2000 := by
        have := mulB (x := (t.2 : Int)) (y := (x.2 : Int)) (a := 512) (b := 64) (c := 2000) (by rw [Int.natAbs_natCast]; exact o13) (by rw [Int.natAbs_natCast]; exact x3) (by decide)
        rw [← Int.natCast_mul, Int.natAbs_natCast] at this
        exact this
      sizeOf_list_dec
      refine ⟨big_mul (Nat.lt_of_lt_of_le m2 (Nat.pow_le_pow_right (by decide) (by decide))) (by rw [Int.natAbs_natCast]; exact Nat.lt_of_lt_of_le o13 (Nat.pow_le_pow_right (by decide) (by decide))), ?_⟩
      sizeOf_list_dec
      rw [← Int.natCast_mul]
      refine ush _ _ m4 (Nat.mul_pos o12 x2) m5 ?_
      array_get_dec
      exact hk
    · intro o
      have eb : enumN 0 (bTab.take (i + 1)) = bIn i := rfl
      rw [eb] at o ⊢
      obtain ⟨o11, o12, o13⟩ := big_iff.mp o
      clear b1 b2 tk eb
      generalize (bIn i).foldl (bsT (chooseN (i + 2))) (0, 1) = t at *
      array_get_dec
      simp only [encS]
      sizeOf_list_dec
      have e2 : ((t.2 : Nat) : Int) * (((1 + i : Nat) : Int) + 1) = ((t.2 * (i + 2) : Nat) : Int) := by
        rw [Int.natCast_mul]; congr 1; omega
      rw [e2]
      have m5 : t.2 * (i + 2) < 2 ^ 2000 := by
        have := mulB (x := (t.2 : Int)) (y := ((i + 2 : Nat) : Int)) (a := 512) (b := 64) (c := 2000) (by rw [Int.natAbs_natCast]; exact o13) (by rw [Int.natAbs_natCast]; omega) (by decide)
        rw [← Int.natCast_mul, Int.natAbs_natCast] at this
        exact this
      refine ush _ _ (by rw [Int.natAbs_neg]; exact Nat.lt_of_lt_of_le o11 (Nat.pow_le_pow_right (by decide) (by decide))) (Nat.mul_pos o12 (by omega)) m5 ?_
      array_get_dec
      refine ⟨by rw [List.length_map, List.length_take]; show min _ 61 < _; exact Nat.lt_of_le_of_lt (Nat.min_le_right _ _) (by decide), ?_⟩
      exact hk
  · rintro ρ rfl
    rw [List.length_map, List.length_range]
    sizeOf_list_dec
    exact h
theorem fits_i {i lo hi : Int} (h1 : lo ≤ i) (h2 : i ≤ hi) : fitsD (.int i) lo hi = true := by
  show (decide (lo ≤ i) && decide (i ≤ hi)) = true
  rw [decide_eq_true h1, decide_eq_true h2]; rfl
theorem tk_get {n : Nat} (h : n ≤ 60) : (bTab.take (n + 1)).getD n (0, 1) = bTab.getD n (0, 1) := by
  rw [List.getD_eq_getElem?_getD, List.getD_eq_getElem?_getD, List.getElem?_take, if_pos (by omega)]
theorem wp_bern (ds : List D) (Qd : D → List D → Prop) (Ed : Xn → Prop) (h : spBern ds Qd Ed) :
    ds.length = 1 ∧ RK.wSs CC (fun x _ => Ed x) ir7 (deOf false false Qd) (startE 1 false ds) := by
  obtain ⟨n, rfl, hn, h⟩ := h
  refine ⟨rfl, ?_⟩
  replace hn : n ≤ 60 := hn
  replace h : Qd (encS (bTab.getD n (0, 1))) [] := h
  show RK.wSs CC (fun x _ => Ed x) ir7 (deOf false false Qd) [.v (.int n)]
  have hl : (bTab.take (n + 1)).length = n + 1 := by rw [List.length_take]; show min _ 61 = _; omega
  unfold ir7
  sizeOf_list_dec
  refine use_need rfl rfl rfl rfl (fun _ => ?_) fun h0 => by rw [fits_i (by omega) (by omega)] at h0; cases h0
  sizeOf_list_dec
  refine use_F (f' := oneI) rfl rfl n rfl hn ?_
  array_get_dec
  refine idx_map (a0 := (0, 1)) (by omega) ?_
  rw [tk_get hn]
  array_get_dec
  exact h
theorem encP_snoc (l : List (Nat × Nat)) (p k : Nat) : l.map encP ++ [.tup [.int (p : Int), .int (k : Int)]] = (l ++ [(p, k)]).map encP := by rw [List.map_append]; rfl
theorem dvd_div {p n : Nat} : ((n : Int) / (p : Int) * (p : Int) = (n : Int)) ↔ n % p = 0 := by
  constructor
  · intro h
    have : n / p * p = n := by exact_mod_cast h
    rw [← this]; exact Nat.mul_mod_left _ _
  · intro h
    have := Nat.div_mul_cancel (Nat.dvd_of_mod_eq_zero h)
    exact_mod_cast this
/-- the primes taken off: what is left, how often -/
theorem str_pos : ∀ (k p : Nat) (s : Nat × Nat), 2 ≤ p → 0 < s.1 → 0 < (strF k p s).1 ∧ (strF k p s).1 ≤ s.1 ∧ (strF k p s).2 ≤ s.2 + k
  | 0, p, s, _, h => ⟨h, Nat.le_refl _, Nat.le_refl _⟩
  | k + 1, p, s, h2, h => by
    unfold strF
    by_cases c : s.1 % p = 0
    · rw [if_pos c]
      have h3 : 0 < s.1 / p := Nat.div_pos (Nat.le_of_dvd h (Nat.dvd_of_mod_eq_zero c)) (by omega)
      obtain ⟨a, b, d⟩ := str_pos k p (s.1 / p, s.2 + 1) h2 h3
      exact ⟨a, Nat.le_trans b (Nat.div_le_self _ _), by have : (strF k p (s.1 / p, s.2 + 1)).2 ≤ s.2 + 1 + k := d; omega⟩
    · rw [if_neg c]
      exact ⟨h, Nat.le_refl _, by omega⟩
theorem wp_far (ds : List D) (Qd : D → List D → Prop) (Ed : Xn → Prop) (h : spFar ds Qd Ed) :
    ds.length = 1 ∧ RK.wSs CC (fun x _ => Ed x) ir8 (deOf false false Qd) (startE 4 false ds) := by
  obtain ⟨n, rfl, ⟨n0, nN⟩, h⟩ := h
  refine ⟨rfl, ?_⟩
  replace h : Qd (.lst ((farF n).map encP)) [] := h
  show RK.wSs CC (fun x _ => Ed x) ir8 (deOf false false Qd) [.v (.int n), .no, .no, .no]
  unfold ir8
  sizeOf_list_dec
  refine for_rng (m := 60) (e := fun k : Nat => D.int (2 + (k : Int))) (s0 := ([], n)) faS (fun s => [.v (.int s.2), .ow (s.1.map encP), .no, .no]) (fun i s => 0 < s.2 ∧ s.2 < 2 ^ 64 ∧ s.1.length ≤ i) ⟨n0, nN, Nat.le_refl _⟩ ?_ ?_
  · rintro i ⟨f, n⟩ k ⟨p0, p1, p2⟩ hi hk
    replace p0 : 0 < n := p0
    replace p1 : n < 2 ^ 64 := p1
    replace p2 : f.length ≤ i := p2
    have e2 : (2 : Int) + (i : Int) = ((2 + i : Nat) : Int) := by omega
    have sp := str_pos 64 (2 + i) (n, 0) (by omega) p0
    have hk := hk ⟨sp.1, Nat.lt_of_le_of_lt sp.2.1 p1, by
      show (f ++ onP (2 + i) _).length ≤ i + 1
      rw [List.length_append]
      unfold onP
      split <;> simp <;> omega⟩
    replace hk : k [.v (.int ((strF 64 (2 + i) (n, 0)).1 : Nat)), .ow ((f ++ onP (2 + i) (strF 64 (2 + i) (n, 0)).2).map encP), .no, .no] := hk
    rw [e2]
    generalize hp : 2 + i = p at *
    sizeOf_list_dec
    have p2' : 2 ≤ p := by omega
    have pN : p < 64 := by omega
    refine whl_inv (fun m ρ => ∃ a c : Nat, 0 < a ∧ a < 2 ^ m ∧ m ≤ 64 ∧ strF m p (a, c) = strF 64 p (n, 0) ∧ ρ = [.v (.int a), .ow (f.map encP), .v (.int p), .v (.int c)]) 64 ⟨n, 0, p0, p1, Nat.le_refl _, rfl, rfl⟩ ?_
    rintro m ρ ⟨a, c, a0, a1, m1, hT, rfl⟩
    array_get_dec
    refine ⟨cdiv (by omega) (by omega), mulR (by omega) (by omega), ?_⟩
    refine brK_by (fun hc => ?_) fun hc => ?_
    · rw [decide_eq_true_eq] at hc
      have hc := dvd_div.mp hc
      array_get_dec
      refine ⟨cdiv (by omega) (by omega), ?_⟩
      cases m with
      | zero => exact absurd a1 (by show ¬ a < 1; omega)
      | succ m =>
        have e1 : strF (m + 1) p (a, c) = strF m p (a / p, c + 1) := if_pos hc
        rw [e1] at hT
        have h3 : 0 < a / p := Nat.div_pos (Nat.le_of_dvd a0 (Nat.dvd_of_mod_eq_zero hc)) (by omega)
        have h4 : a / p < 2 ^ m := by
          rw [Nat.div_lt_iff_lt_mul (by omega)]
          rw [Nat.pow_succ] at a1
          exact Nat.lt_of_lt_of_le a1 (Nat.mul_le_mul_left _ p2')
        exact ⟨m, Nat.lt_succ_self _, a / p, c + 1, h3, h4, by omega, hT, by rw [Int.natCast_ediv, Int.natCast_add]; rfl⟩
    · rw [decide_eq_false_iff_not] at hc
      have hc : ¬ a % p = 0 := fun z => hc (dvd_div.mpr z)
      have e1 : strF m p (a, c) = (a, c) := by
        cases m with
        | zero => rfl
        | succ m => exact if_neg hc
      rw [e1] at hT
      rw [← hT] at hk
      unfold onP at hk
      array_get_dec
      by_cases c0 : 0 < c
      · rw [if_pos c0] at hk
        rw [decide_eq_true (show (0 : Int) < (c : Int) by omega)]
        array_get_dec
        rw [encP_snoc]
        refine ⟨by decide, by decide, by rw [List.length_map]; exact Nat.le_trans (show f.length + (0 + 1) ≤ 100 by omega) (by decide), ?_⟩
        exact hk
      · rw [if_neg c0, List.append_nil] at hk
        rw [decide_eq_false (show ¬ (0 : Int) < (c : Int) by omega)]
        array_get_dec
        rw [List.append_nil]
        refine ⟨by decide, by rw [List.length_map]; exact Nat.le_trans (show f.length + 0 ≤ 100 by omega) (by decide), hk⟩
  · intro _
    array_get_dec
    exact h
theorem far_len (n : Nat) : (farF n).length ≤ 60 := by
  have : ∀ m, ((List.range m).foldl faS ([], n)).1.length ≤ m := by
    intro m
    induction m with
    | zero => exact Nat.le_refl _
    | succ m ih =>
      rw [List.range_succ, List.foldl_append]
      generalize (List.range m).foldl faS ([], n) = s at *
      show (s.1 ++ onP (2 + m) _).length ≤ m + 1
      rw [List.length_append]
      unfold onP
      split <;> simp <;> omega
  exact this 60
theorem wp_pb (ds : List D) (Qd : D → List D → Prop) (Ed : Xn → Prop) (h : spPB ds Qd Ed) :
    ds.length = 1 ∧ RK.wSs CC (fun x _ => Ed x) ir9 (deOf false false Qd) (startE 3 false ds) := by
  obtain ⟨n, rfl, hn, h⟩ := h
  refine ⟨rfl, ?_⟩
  replace hn : n ≤ 60 := hn
  replace h : Qd (.tup (nats (pbN n))) [] := h
  show RK.wSs CC (fun x _ => Ed x) ir9 (deOf false false Qd) [.v (.int n), .no, .no]
  have hl : (bTab.take (n + 1)).length = n + 1 := by rw [List.length_take]; show min _ 61 = _; omega
  unfold ir9
  sizeOf_list_dec
  refine use_need rfl rfl rfl rfl (fun _ => ?_) fun h0 => by rw [fits_i (by omega) (by omega)] at h0; cases h0
  sizeOf_list_dec
  refine use_F (f' := oneI) rfl rfl n rfl hn ?_
  array_get_dec
  refine idx_map (a0 := (0, 1)) (by omega) ?_
  rw [tk_get hn]
  unfold pbN at h
  have hb := bt (bgt hn)
  generalize bTab.getD n (0, 1) = x at *
  simp only [encS]
  array_get_dec
  have q : ∀ {kf : List D → En} {ρ' : En} {Q : R → En → Prop}, Q (.v (.lst ((farF x.2).map encP))) (kf []) → finD CC 8 (fun x _ => Ed x) kf ρ' Q [.int (x.2 : Nat)] := fun q => use_F (f' := oneI) rfl rfl x.2 rfl ⟨hb.2.1, hb.2.2.1⟩ q
  refine q ?_
  have fl : (farF x.2).length ≤ 60 := far_len _
  generalize farF x.2 = l at *
  array_get_dec
  refine comp_all (xs := l) (e := encP) (fun x => .int x.1) (by omega) (fun x _ k hk => ?_) ?_
  · unfold encP
    array_get_dec
    exact hk
  · array_get_dec
    unfold nats at h
    rw [List.map_map] at h
    exact h
end RL
set_option pp.deepTerms.threshold 6
set_option pp.maxSteps 3000
namespace RL
open PySem PySem.Spec PyProof.Rows L2 RK
local macro_rules | `(tactic| array_get_dec) => `(tactic| try simp -dsimp only [↓RK.u_nil, ↓RK.u_cons, ↓RK.u_asg, ↓RK.u_par, ↓RK.u_aug, ↓RK.u_agK_i, ↓RK.u_agK_o, ↓RK.u_agI_a, ↓RK.u_agI_s, ↓RK.u_agL, ↓RK.u_sti, ↓RK.u_stiK_ow, ↓RK.u_stK_o, ↓RK.u_stK_i, ↓RK.u_ex, ↓RK.u_ifs, ↓RK.u_whil, ↓RK.u_for, ↓RK.u_forO, ↓RK.u_foK_o, ↓RK.u_itO0, ↓RK.u_itO1, ↓RK.u_ret, ↓RK.u_brk, ↓RK.u_cnt, ↓RK.u_pass, ↓RK.u_rai, ↓RK.u_fg, ↓RK.u_br1, ↓RK.u_br0, ↓RK.u_brE1, ↓RK.u_brE0, ↓RK.u_brT1, ↓RK.u_brT0, ↓RK.u_brF1, ↓RK.u_brF0, ↓RK.u_an1, ↓RK.u_an0, ↓RK.u_or1, ↓RK.u_or0, ↓RK.u_c21, ↓RK.u_c20, ↓RK.u_ts1, ↓RK.u_ts0, ↓RK.u_el1, ↓RK.u_el0, ↓RK.u_v, ↓RK.u_vK_v, ↓RK.u_vK_o, ↓RK.u_vK_i, ↓RK.u_c, ↓RK.u_g, ↓RK.u_gK, ↓RK.u_bin, ↓RK.u_neg, ↓RK.u_ngK, ↓RK.u_cmp, ↓RK.u_cmp2, ↓RK.u_and, ↓RK.u_or, ↓RK.u_not, ↓RK.u_ntK, ↓RK.u_ite, ↓RK.u_tup, ↓RK.u_lst, ↓RK.u_call, ↓RK.u_bi, ↓RK.u_isi, ↓RK.u_isK, ↓RK.u_idx, ↓RK.u_comp, ↓RK.u_slc, ↓RK.u_t_slc, ↓RK.u_izip, ↓RK.u_ienum, ↓RK.u_rev, ↓RK.u_rgv, ↓RK.u_meth, ↓RK.u_rs0, ↓RK.u_rs1, ↓RK.u_tAnd, ↓RK.u_tOr, ↓RK.u_tNot, ↓RK.u_tk, ↓RK.u_t_v, ↓RK.u_t_c, ↓RK.u_t_g, ↓RK.u_t_bin, ↓RK.u_t_cmp, ↓RK.u_t_cmp2, ↓RK.u_t_call, ↓RK.u_t_bi, ↓RK.u_t_isi, ↓RK.u_t_idx, ↓RK.u_t_meth, ↓RK.u_t_comp, ↓RK.u_ts_nil, ↓RK.u_ts_cons, ↓RK.u_ie, ↓RK.u_irng, ↓RK.u_kv, ↓RK.u_kf, ↓RK.u_kb, ↓RK.u_kbK_v, ↓RK.u_kbK_o, ↓RK.u_ks0, ↓RK.u_ks1, ↓RK.u_kBv, ↓RK.u_kBf, ↓RK.u_kBb, ↓RK.u_kBs0, ↓RK.u_kBs1, ↓RK.u_sR0, ↓RK.u_sR1, ↓RK.u_as0, ↓RK.u_as1, ↓RK.u_slv, ↓RK.u_slf, ↓RK.u_tv, ↓RK.u_tf, ↓RK.u_tb, ↓RK.u_tt, ↓RK.u_tl, ↓RK.u_tfl, ↓RK.u_gv, ↓RK.u_gf, ↓RK.u_gb, ↓RK.u_gs1, ↓RK.u_gs2, ↓RK.u_gs3, ↓RK.u_body, ↓RK.u_io_o, ↓RK.u_io_i, ↓RK.v_add_i, ↓RK.v_add_s, ↓RK.v_add_l, ↓RK.v_add_t, ↓RK.v_sub, ↓RK.v_mul, ↓RK.v_mul_l, ↓RK.v_fdiv, ↓RK.v_fdn, ↓RK.v_mod, ↓RK.v_pow, ↓RK.v_lt, ↓RK.v_le, ↓RK.v_gt, ↓RK.v_ge, ↓RK.v_eq_i, ↓RK.v_ne_i, ↓RK.v_eq_b, ↓RK.v_ne_b, ↓RK.v_eq_l, ↓RK.v_eq_t, ↓RK.v_ne_l, ↓RK.v_ne_t, ↓RK.v_eq_s, ↓RK.v_ne_s, ↓RK.v_is_b, ↓RK.v_is_nn, ↓RK.v_is_bn, ↓RK.v_is_in, ↓RK.v_is_sn, ↓RK.v_is_tn, ↓RK.v_is_ln, ↓RK.v_isn_b, ↓RK.v_isn_nn, ↓RK.v_isn_bn, ↓RK.v_isn_in, ↓RK.v_isn_sn, ↓RK.v_isn_tn, ↓RK.v_isn_ln, ↓RK.v_in_l, ↓RK.v_nin_l, ↓RK.v_in_t, ↓RK.v_nin_t, ↓RK.v_len_l, ↓RK.v_len_t, ↓RK.v_len_s, ↓RK.v_abs, ↓RK.v_int_i, ↓RK.v_int_b, ↓RK.v_str_i, ↓RK.v_tup_l, ↓RK.v_tup_t, ↓RK.v_lst_l, ↓RK.v_lst_t, ↓RK.v_lst_s, ↓RK.v_sum, ↓RK.v_sorted, ↓RK.v_sumT, ↓RK.v_sortedT, ↓RK.v_sortT, ↓RK.v_min2, ↓RK.v_max2, ↓RK.v_min, ↓RK.v_max, ↓RK.v_ix0, ↓RK.v_ix1, ↓RK.v_ix2, ↓RK.v_tx0, ↓RK.v_tx1, ↓RK.v_tx2, ↓RK.v_rng1, ↓RK.v_rng2, ↓RK.v_rng3, ↓RK.v_all, ↓RK.v_any, ↓RK.v_str_s, ↓RK.v_slc_l, ↓RK.v_slc_t, ↓RK.v_opt0, ↓RK.v_opt1, ↓RK.v_zip_l, ↓RK.v_zip_t, ↓RK.v_enum_l, ↓RK.v_enum_t, ↓RK.v_mul_t, ↓RK.v_rev, ↓RK.v_rgt1, ↓RK.v_rgl1, ↓RK.v_rgt2, ↓RK.v_rgl2, ↓RK.v_items_l, ↓RK.v_items_t, ↓RK.v_tru_n, ↓RK.v_tru_b, ↓RK.v_tru_i, ↓RK.v_tru_t, ↓RK.v_tru_l, ↓RK.v_isi_non_int, ↓RK.v_isi_non_bool, ↓RK.v_isi_non_tuple, ↓RK.v_isi_non_list, ↓RK.v_isi_non_str, ↓RK.v_isi_bl_int, ↓RK.v_isi_bl_bool, ↓RK.v_isi_bl_tuple, ↓RK.v_isi_bl_list, ↓RK.v_isi_bl_str, ↓RK.v_isi_int_int, ↓RK.v_isi_int_bool, ↓RK.v_isi_int_tuple, ↓RK.v_isi_int_list, ↓RK.v_isi_int_str, ↓RK.v_isi_str_int, ↓RK.v_isi_str_bool, ↓RK.v_isi_str_tuple, ↓RK.v_isi_str_list, ↓RK.v_isi_str_str, ↓RK.v_isi_tup_int, ↓RK.v_isi_tup_bool, ↓RK.v_isi_tup_tuple, ↓RK.v_isi_tup_list, ↓RK.v_isi_tup_str, ↓RK.v_isi_lst_int, ↓RK.v_isi_lst_bool, ↓RK.v_isi_lst_tuple, ↓RK.v_isi_lst_list, ↓RK.v_isi_lst_str, ↓RK.v_nio0, ↓RK.v_nio1, ↓RK.v_fr_no, ↓RK.v_fr_v, ↓RK.v_fr_ow, ↓RK.v_sx0, ↓RK.v_sx1, ↓RK.v_app, ↓RK.v_apK, ↓RK.v_rem, ↓RK.v_rmK, ↓RK.v_pat, ↓RK.v_paK, ↓RK.v_cnt, ↓RK.v_cntD, ↓RK.v_pop, ↓RK.v_poK, RK.isL, RK.Lt.d, List.getElem?_cons_zero, List.getElem?_cons_succ, List.set_cons_zero, List.set_cons_succ, List.map_cons, List.map_nil, RK.fgE, RK.fg1, RK.wipeE, RK.backE, RK.isOwn, List.forall_mem_cons, List.not_mem_nil, false_imp_iff, implies_true, List.length_cons, List.length_nil, Bool.not_true, Bool.not_false, and_true, true_and, ↓reduceIte, RK.intsD, RK.flatD, decide_true, decide_false, Bool.false_eq_true, reduceCtorEq, ↓RL.cd0, ↓RL.cd1, ↓RL.cd2, ↓RL.cd3, ↓RL.cd4, ↓RL.cd5, ↓RL.cd6, ↓RL.cd7, ↓RL.cd8, ↓RL.cd9, ↓RL.cd10, ↓RL.cd11, ↓RL.cd12, ↓RL.cd13, ↓RL.cd14, ↓RL.cd15, ↓RL.cd16, ↓RL.cd17, ↓RL.cd18, ↓RL.cd19, ↓RL.cd20, ↓RL.cd21, ↓RL.cd22, ↓RL.cd23, ↓RL.cd24, RL.gl_BERNOULLI, RL.gl_FORM, RL.gl_GREAT, RL.gl_POWER, RL.gl_MANY])
local macro_rules | `(tactic| array_mem_dec) => `(tactic| first | omega | decide | exact RK.sz (by omega) | exact RK.szl (by omega) | exact RK.sz (by simp only [List.length_append, List.length_cons, List.length_nil, List.length_map, List.length_range, List.length_replicate, RK.nats_len, RK.pil_len, List.length_nil]; omega) | exact RK.szl (by simp only [List.length_append, List.length_cons, List.length_nil, List.length_map, List.length_range, List.length_replicate, RK.nats_len, RK.pil_len, List.length_nil]; omega) | exact RK.cdiv (by omega) (by omega) | exact RK.mulR (by omega) (by omega) | exact RK.mulL (by omega) (by omega) | exact ⟨by omega, by omega⟩ | exact ⟨by decide, by decide, by decide⟩ | exact RK.eok_nil | assumption)
local macro_rules | `(tactic| sizeOf_list_dec) => `(tactic| (array_get_dec; repeat (refine And.intro (by array_mem_dec) ?_)))
theorem wp_choose (ds : List D) (Qd : D → List D → Prop) (Ed : Xn → Prop) (h : spChoose ds Qd Ed) :
    ds.length = 2 ∧ RK.wSs CC (fun x _ => Ed x) ir13 (deOf false false Qd) (startE 4 false ds) := by
  obtain ⟨⟨n, k⟩, rfl, ⟨hn, hk⟩, h⟩ := h
  replace hn : n < 2 ^ 62 := hn
  replace hk : k ≤ 64 := hk
  replace h : Qd (.int (bin n k : Nat)) [] := h
  refine ⟨rfl, ?_⟩
  show RK.wSs CC (fun x _ => Ed x) ir13 (deOf false false Qd) [.v (.int n), .v (.int k), .no, .no]
  unfold ir13
  sizeOf_list_dec
  rw [Int.toNat_natCast]
  refine for_inv (fun i ρ => ρ = [.v (.int n), .v (.int k), .v (.int (bin n i : Nat)), .no]) (by rw [bin0]; rfl) ?_ ?_
  · rintro i d ρ k' hd rfl hk'
    have hi := (List.getElem?_eq_some_iff.mp hd).1
    rw [List.length_map, List.length_range] at hi
    have hd : d = .int (i : Int) := by
      rw [List.getElem?_map, List.getElem?_range hi] at hd
      cases hd; rfl
    subst hd
    have hk' := hk' _ rfl
    have e := bin_step n i
    have e2 : (bin n i : Int) * ((n : Int) - i) / ((i : Int) + 1) = (bin n (i + 1) : Nat) := by
      rw [e, Int.mul_comm]
      exact Int.mul_ediv_cancel _ (by omega)
    have mo : RK.MulOk (bin n i : Int) ((n : Int) - (i : Int)) := by
      by_cases c : i ≤ n
      · exact mulR (by omega) (by omega)
      · rw [bin_zero (by omega)]
        exact mulL (by omega) (by omega)
    array_get_dec
    refine ⟨mo, cdiv (by omega) (by omega), ?_⟩
    rw [e2]
    exact hk'
  · rintro ρ rfl
    rw [List.length_map, List.length_range]
    sizeOf_list_dec
    exact h
theorem nat_ints (l : List Int) : intsD (intL l) = some l := ints_map l
theorem cut_one (xs : List D) : RK.cutD xs (some 1) none = xs.drop 1 := by
  unfold RK.cutD HT.sIx
  cases xs with
  | nil => rfl
  | cons x xs => simp
theorem zw_int : ∀ l m : List Int, List.zipWith (fun a b => D.tup [a, b]) (intL l) (intL m) = (l.zip m).map fun p => .tup [.int p.1, .int p.2]
  | [], _ => rfl
  | _ :: _, [] => rfl
  | a :: l, b :: m => by
    show _ :: List.zipWith _ (intL l) (intL m) = _ :: _
    rw [zw_int l m]; rfl
theorem diff_zip : ∀ l : List Int, diffI l = (l.zip (l.drop 1)).map fun p => p.2 - p.1
  | [] => rfl
  | [a] => rfl
  | a :: b :: r => by
    show (b - a) :: diffI (b :: r) = _
    rw [diff_zip (b :: r)]; rfl
theorem diff_len : ∀ l : List Int, (diffI l).length = l.length - 1
  | [] => rfl
  | [a] => rfl
  | a :: b :: r => by
    show (diffI (b :: r)).length + 1 = r.length + 1
    rw [diff_len (b :: r)]; rfl
theorem wp_diff (ds : List D) (Qd : D → List D → Prop) (Ed : Xn → Prop) (h : spDiff ds Qd Ed) :
    ds.length = 1 ∧ RK.wSs CC (fun x _ => Ed x) ir11 (deOf false false Qd) (startE 3 false ds) := by
  obtain ⟨l, rfl, hl, h⟩ := h
  replace hl : l.length ≤ 1000 := hl
  replace h : Qd (.lst (intL (diffI l))) [] := h
  refine ⟨rfl, ?_⟩
  show RK.wSs CC (fun x _ => Ed x) ir11 (deOf false false Qd) [.v (.lst (intL l)), .no, .no]
  unfold ir11
  sizeOf_list_dec
  have dr : (intL l).drop 1 = intL (l.drop 1) := by unfold intL; rw [List.map_drop]
  rw [cut_one, dr, zw_int]
  refine comp_all (xs := l.zip (l.drop 1)) (e := fun p : Int × Int => .tup [.int p.1, .int p.2]) (fun p => .int (p.2 - p.1)) (by rw [List.length_zip]; omega) (fun x _ k hk => ?_) ?_
  · array_get_dec
    exact hk
  · array_get_dec
    rw [diff_zip] at h
    unfold intL at h
    rw [List.map_map] at h
    exact h
theorem leads_len : ∀ (k : Nat) (l : List Int), (leadsI k l).length ≤ k
  | 0, _ => Nat.le_refl _
  | k + 1, [] => Nat.zero_le _
  | k + 1, a :: r => by
    show (leadsI k _).length + 1 ≤ k + 1
    have := leads_len k (diffI (a :: r))
    omega
theorem wp_leads (ds : List D) (Qd : D → List D → Prop) (Ed : Xn → Prop) (h : spLeads ds Qd Ed) :
    ds.length = 1 ∧ RK.wSs CC (fun x _ => Ed x) ir12 (deOf false false Qd) (startE 3 false ds) := by
  obtain ⟨l, rfl, hl, h⟩ := h
  replace hl : l.length ≤ 1000 := hl
  replace h : Qd (.lst (intL (leadsI l.length l))) [] := h
  refine ⟨rfl, ?_⟩
  show RK.wSs CC (fun x _ => Ed x) ir12 (deOf false false Qd) [.v (.lst (intL l)), .no, .no]
  unfold ir12
  sizeOf_list_dec
  refine whl_inv (fun m ρ => ∃ (f x : List Int) (s : Sl), m = x.length ∧ f ++ leadsI x.length x = leadsI l.length l ∧ f.length + x.length ≤ 1000 ∧ (s = .ow (intL x) ∨ s = .v (.lst (intL x))) ∧ ρ = [.no, .ow (intL f), s]) l.length ⟨[], l, _, rfl, rfl, by show 0 + l.length ≤ 1000; omega, .inl rfl, rfl⟩ ?_
  have eo : ∀ x : List Int, EqOk (.lst (intL x)) := fun x => eok_l fun d hd => by
    obtain ⟨j, _, rfl⟩ := List.mem_map.mp hd
    exact pd_mono pd_int (by decide)
  have sn : ∀ (f : List Int) (a : Int), intL f ++ [.int a] = intL (f ++ [a]) := fun f a => by unfold intL; rw [List.map_append]; rfl
  rintro m ρ ⟨f, x, s, rfl, e, hl2, hs, rfl⟩
  rcases hs with rfl | rfl
  all_goals
    array_get_dec
    refine ⟨by decide, eo x, eok_l0, ?_⟩
    rw [eqD_nil]
    cases x with
    | nil =>
      show RK.brK (!true) _ _ _
      array_get_dec
      have e2 : f = leadsI l.length l := by rw [← e]; exact (List.append_nil f).symm
      rw [e2]
      exact h
    | cons a r =>
      have dl := diff_len (a :: r)
      replace dl : (diffI (a :: r)).length = r.length := dl
      show RK.brK (!false) _ _ _
      have en : intL (a :: r) = .int a :: intL r := rfl
      array_get_dec
      rw [en]
      array_get_dec
      have fl : (intL f).length < sizeLine := by
        unfold intL
        rw [List.length_map]
        exact Nat.lt_of_le_of_lt (show f.length ≤ 1000 by omega) (by decide)
      refine ⟨fl, ?_⟩
      rw [← en]
      refine use_F (f' := fun l : List Int => [.lst (intL l)]) rfl rfl (a :: r) rfl (by show r.length + 1 ≤ 1000; have : f.length + (r.length + 1) ≤ 1000 := hl2; omega) ?_
      array_get_dec
      rw [sn]
      refine ⟨r.length, by show r.length < r.length + 1; omega, f ++ [a], diffI (a :: r), _, dl.symm, ?_, by rw [List.length_append, dl]; exact (show f.length + 1 + r.length ≤ 1000 by have : f.length + (r.length + 1) ≤ 1000 := hl2; omega), .inr rfl, rfl⟩
      rw [← e, dl, List.append_assoc]; rfl
end RL
set_option pp.deepTerms.threshold 6
set_option pp.maxSteps 3000
namespace RL
open PySem PySem.Spec PyProof.Rows L2 RK
local macro_rules | `(tactic| array_get_dec) => `(tactic| try simp -dsimp only [↓RK.u_nil, ↓RK.u_cons, ↓RK.u_asg, ↓RK.u_par, ↓RK.u_aug, ↓RK.u_agK_i, ↓RK.u_agK_o, ↓RK.u_agI_a, ↓RK.u_agI_s, ↓RK.u_agL, ↓RK.u_sti, ↓RK.u_stiK_ow, ↓RK.u_stK_o, ↓RK.u_stK_i, ↓RK.u_ex, ↓RK.u_ifs, ↓RK.u_whil, ↓RK.u_for, ↓RK.u_forO, ↓RK.u_foK_o, ↓RK.u_itO0, ↓RK.u_itO1, ↓RK.u_ret, ↓RK.u_brk, ↓RK.u_cnt, ↓RK.u_pass, ↓RK.u_rai, ↓RK.u_fg, ↓RK.u_br1, ↓RK.u_br0, ↓RK.u_brE1, ↓RK.u_brE0, ↓RK.u_brT1, ↓RK.u_brT0, ↓RK.u_brF1, ↓RK.u_brF0, ↓RK.u_an1, ↓RK.u_an0, ↓RK.u_or1, ↓RK.u_or0, ↓RK.u_c21, ↓RK.u_c20, ↓RK.u_ts1, ↓RK.u_ts0, ↓RK.u_el1, ↓RK.u_el0, ↓RK.u_v, ↓RK.u_vK_v, ↓RK.u_vK_o, ↓RK.u_vK_i, ↓RK.u_c, ↓RK.u_g, ↓RK.u_gK, ↓RK.u_bin, ↓RK.u_neg, ↓RK.u_ngK, ↓RK.u_cmp, ↓RK.u_cmp2, ↓RK.u_and, ↓RK.u_or, ↓RK.u_not, ↓RK.u_ntK, ↓RK.u_ite, ↓RK.u_tup, ↓RK.u_lst, ↓RK.u_call, ↓RK.u_bi, ↓RK.u_isi, ↓RK.u_isK, ↓RK.u_idx, ↓RK.u_comp, ↓RK.u_slc, ↓RK.u_t_slc, ↓RK.u_izip, ↓RK.u_ienum, ↓RK.u_rev, ↓RK.u_rgv, ↓RK.u_meth, ↓RK.u_rs0, ↓RK.u_rs1, ↓RK.u_tAnd, ↓RK.u_tOr, ↓RK.u_tNot, ↓RK.u_tk, ↓RK.u_t_v, ↓RK.u_t_c, ↓RK.u_t_g, ↓RK.u_t_bin, ↓RK.u_t_cmp, ↓RK.u_t_cmp2, ↓RK.u_t_call, ↓RK.u_t_bi, ↓RK.u_t_isi, ↓RK.u_t_idx, ↓RK.u_t_meth, ↓RK.u_t_comp, ↓RK.u_ts_nil, ↓RK.u_ts_cons, ↓RK.u_ie, ↓RK.u_irng, ↓RK.u_kv, ↓RK.u_kf, ↓RK.u_kb, ↓RK.u_kbK_v, ↓RK.u_kbK_o, ↓RK.u_ks0, ↓RK.u_ks1, ↓RK.u_kBv, ↓RK.u_kBf, ↓RK.u_kBb, ↓RK.u_kBs0, ↓RK.u_kBs1, ↓RK.u_sR0, ↓RK.u_sR1, ↓RK.u_as0, ↓RK.u_as1, ↓RK.u_slv, ↓RK.u_slf, ↓RK.u_tv, ↓RK.u_tf, ↓RK.u_tb, ↓RK.u_tt, ↓RK.u_tl, ↓RK.u_tfl, ↓RK.u_gv, ↓RK.u_gf, ↓RK.u_gb, ↓RK.u_gs1, ↓RK.u_gs2, ↓RK.u_gs3, ↓RK.u_body, ↓RK.u_io_o, ↓RK.u_io_i, ↓RK.v_add_i, ↓RK.v_add_s, ↓RK.v_add_l, ↓RK.v_add_t, ↓RK.v_sub, ↓RK.v_mul, ↓RK.v_mul_l, ↓RK.v_fdiv, ↓RK.v_fdn, ↓RK.v_mod, ↓RK.v_pow, ↓RK.v_lt, ↓RK.v_le, ↓RK.v_gt, ↓RK.v_ge, ↓RK.v_eq_i, ↓RK.v_ne_i, ↓RK.v_eq_b, ↓RK.v_ne_b, ↓RK.v_eq_l, ↓RK.v_eq_t, ↓RK.v_ne_l, ↓RK.v_ne_t, ↓RK.v_eq_s, ↓RK.v_ne_s, ↓RK.v_is_b, ↓RK.v_is_nn, ↓RK.v_is_bn, ↓RK.v_is_in, ↓RK.v_is_sn, ↓RK.v_is_tn, ↓RK.v_is_ln, ↓RK.v_isn_b, ↓RK.v_isn_nn, ↓RK.v_isn_bn, ↓RK.v_isn_in, ↓RK.v_isn_sn, ↓RK.v_isn_tn, ↓RK.v_isn_ln, ↓RK.v_in_l, ↓RK.v_nin_l, ↓RK.v_in_t, ↓RK.v_nin_t, ↓RK.v_len_l, ↓RK.v_len_t, ↓RK.v_len_s, ↓RK.v_abs, ↓RK.v_int_i, ↓RK.v_int_b, ↓RK.v_str_i, ↓RK.v_tup_l, ↓RK.v_tup_t, ↓RK.v_lst_l, ↓RK.v_lst_t, ↓RK.v_lst_s, ↓RK.v_sum, ↓RK.v_sorted, ↓RK.v_sumT, ↓RK.v_sortedT, ↓RK.v_sortT, ↓RK.v_min2, ↓RK.v_max2, ↓RK.v_min, ↓RK.v_max, ↓RK.v_ix0, ↓RK.v_ix1, ↓RK.v_ix2, ↓RK.v_tx0, ↓RK.v_tx1, ↓RK.v_tx2, ↓RK.v_rng1, ↓RK.v_rng2, ↓RK.v_rng3, ↓RK.v_all, ↓RK.v_any, ↓RK.v_str_s, ↓RK.v_slc_l, ↓RK.v_slc_t, ↓RK.v_opt0, ↓RK.v_opt1, ↓RK.v_zip_l, ↓RK.v_zip_t, ↓RK.v_enum_l, ↓RK.v_enum_t, ↓RK.v_mul_t, ↓RK.v_rev, ↓RK.v_rgt1, ↓RK.v_rgl1, ↓RK.v_rgt2, ↓RK.v_rgl2, ↓RK.v_items_l, ↓RK.v_items_t, ↓RK.v_tru_n, ↓RK.v_tru_b, ↓RK.v_tru_i, ↓RK.v_tru_t, ↓RK.v_tru_l, ↓RK.v_isi_non_int, ↓RK.v_isi_non_bool, ↓RK.v_isi_non_tuple, ↓RK.v_isi_non_list, ↓RK.v_isi_non_str, ↓RK.v_isi_bl_int, ↓RK.v_isi_bl_bool, ↓RK.v_isi_bl_tuple, ↓RK.v_isi_bl_list, ↓RK.v_isi_bl_str, ↓RK.v_isi_int_int, ↓RK.v_isi_int_bool, ↓RK.v_isi_int_tuple, ↓RK.v_isi_int_list, ↓RK.v_isi_int_str, ↓RK.v_isi_str_int, ↓RK.v_isi_str_bool, ↓RK.v_isi_str_tuple, ↓RK.v_isi_str_list, ↓RK.v_isi_str_str, ↓RK.v_isi_tup_int, ↓RK.v_isi_tup_bool, ↓RK.v_isi_tup_tuple, ↓RK.v_isi_tup_list, ↓RK.v_isi_tup_str, ↓RK.v_isi_lst_int, ↓RK.v_isi_lst_bool, ↓RK.v_isi_lst_tuple, ↓RK.v_isi_lst_list, ↓RK.v_isi_lst_str, ↓RK.v_nio0, ↓RK.v_nio1, ↓RK.v_fr_no, ↓RK.v_fr_v, ↓RK.v_fr_ow, ↓RK.v_sx0, ↓RK.v_sx1, ↓RK.v_app, ↓RK.v_apK, ↓RK.v_rem, ↓RK.v_rmK, ↓RK.v_pat, ↓RK.v_paK, ↓RK.v_cnt, ↓RK.v_cntD, ↓RK.v_pop, ↓RK.v_poK, RK.isL, RK.Lt.d, List.getElem?_cons_zero, List.getElem?_cons_succ, List.set_cons_zero, List.set_cons_succ, List.map_cons, List.map_nil, RK.fgE, RK.fg1, RK.wipeE, RK.backE, RK.isOwn, List.forall_mem_cons, List.not_mem_nil, false_imp_iff, implies_true, List.length_cons, List.length_nil, Bool.not_true, Bool.not_false, and_true, true_and, ↓reduceIte, RK.intsD, RK.flatD, decide_true, decide_false, Bool.false_eq_true, reduceCtorEq, ↓RL.cd0, ↓RL.cd1, ↓RL.cd2, ↓RL.cd3, ↓RL.cd4, ↓RL.cd5, ↓RL.cd6, ↓RL.cd7, ↓RL.cd8, ↓RL.cd9, ↓RL.cd10, ↓RL.cd11, ↓RL.cd12, ↓RL.cd13, ↓RL.cd14, ↓RL.cd15, ↓RL.cd16, ↓RL.cd17, ↓RL.cd18, ↓RL.cd19, ↓RL.cd20, ↓RL.cd21, ↓RL.cd22, ↓RL.cd23, ↓RL.cd24, RL.gl_BERNOULLI, RL.gl_FORM, RL.gl_GREAT, RL.gl_POWER, RL.gl_MANY])
local macro_rules | `(tactic| array_mem_dec) => `(tactic| first | omega | decide | exact RK.sz (by omega) | exact RK.szl (by omega) | exact RK.sz (by simp only [List.length_append, List.length_cons, List.length_nil, List.length_map, List.length_range, List.length_replicate, RK.nats_len, RK.pil_len, List.length_nil]; omega) | exact RK.szl (by simp only [List.length_append, List.length_cons, List.length_nil, List.length_map, List.length_range, List.length_replicate, RK.nats_len, RK.pil_len, List.length_nil]; omega) | exact RK.cdiv (by omega) (by omega) | exact RK.mulR (by omega) (by omega) | exact RK.mulL (by omega) (by omega) | exact ⟨by omega, by omega⟩ | exact ⟨by decide, by decide, by decide⟩ | exact RK.eok_nil | assumption)
local macro_rules | `(tactic| sizeOf_list_dec) => `(tactic| (array_get_dec; repeat (refine And.intro (by array_mem_dec) ?_)))
theorem wp_val (ds : List D) (Qd : D → List D → Prop) (Ed : Xn → Prop) (h : spVal ds Qd Ed) :
    ds.length = 2 ∧ RK.wSs CC (fun x _ => Ed x) ir14 (deOf false false Qd) (startE 4 false ds) := by
  obtain ⟨⟨l, m⟩, rfl, ⟨hl, hb, hm⟩, h⟩ := h
  replace hl : l.length ≤ 64 := hl
  replace hb : ∀ x ∈ l, x.natAbs < 2 ^ 512 := hb
  replace hm : m < 2 ^ 62 := hm
  replace h : Qd (.int (nv l 0 m)) [] := h
  refine ⟨rfl, ?_⟩
  show RK.wSs CC (fun x _ => Ed x) ir14 (deOf false false Qd) [.v (.lst (intL l)), .v (.int m), .no, .no]
  unfold ir14
  array_get_dec
  have ee : enumL 0 (intL l) = (enumN 0 l).map fun p => .tup [.int (p.1 : Nat), .int p.2] := enum_map D.int l 0
  rw [ee]
  refine comp_all (xs := enumN 0 l) (e := fun p : Nat × Int => .tup [.int (p.1 : Nat), .int p.2]) (fun p => .int (p.2 * (bin m p.1 : Nat))) (by rw [enumN_len]; omega) (fun x hx k hk => ?_) ?_
  · obtain ⟨_, h2, h3⟩ := enumN_mem _ _ _ hx
    have x64 : x.1 < 64 := by omega
    have hb := hb _ h3
    have bb : bin m x.1 < 2 ^ 4000 := by
      refine Nat.lt_of_le_of_lt (bin_le _ _) ?_
      refine Nat.lt_of_le_of_lt (Nat.pow_le_pow_left (Nat.le_of_lt hm) x.1) ?_
      rw [← Nat.pow_mul]
      exact Nat.pow_lt_pow_right (by decide) (by omega)
    array_get_dec
    refine use_F (f' := fun x : Nat × Nat => [.int x.1, .int x.2]) rfl rfl (m, x.1) rfl ⟨hm, by show x.1 ≤ 64; omega⟩ ?_
    array_get_dec
    refine ⟨big_mul (Nat.lt_of_lt_of_le hb (Nat.pow_le_pow_right (by decide) (by decide))) (by rw [Int.natAbs_natCast]; exact Nat.lt_of_lt_of_le bb (Nat.pow_le_pow_right (by decide) (by decide))), ?_⟩
    exact hk
  · array_get_dec
    refine ⟨(enumN 0 l).map fun x => x.2 * (bin m x.1 : Int), ?_, ?_⟩
    · have := RK.ints_map ((enumN 0 l).map fun x => x.2 * (bin m x.1 : Int))
      rw [List.map_map] at this
      exact this
    · rw [nv_sum]
      exact h
theorem pows_len (p : Nat) : (powsI p).length = p + 1 := by unfold powsI; rw [List.length_map, List.length_range]
theorem wp_pl (ds : List D) (Qd : D → List D → Prop) (Ed : Xn → Prop) (h : spPL ds Qd Ed) :
    ds.length = 1 ∧ RK.wSs CC (fun x _ => Ed x) ir16 (deOf false false Qd) (startE 2 false ds) := by
  obtain ⟨p, rfl, hp, h⟩ := h
  replace hp : p ≤ 20 := hp
  replace h : Qd (.lst (intL (plD p))) [] := h
  refine ⟨rfl, ?_⟩
  show RK.wSs CC (fun x _ => Ed x) ir16 (deOf false false Qd) [.v (.int p), .no]
  unfold ir16
  sizeOf_list_dec
  rw [show ((p : Int) + 1).toNat = p + 1 by omega]
  refine comp_rng (m := p + 1) (fun k => .int ((k ^ p : Nat) : Int)) (by omega) (fun j hj k hk => ?_) ?_
  · array_get_dec
    refine use_F (f' := fun x : Nat × Nat => [.int x.1, .int x.2]) rfl rfl (j, p) rfl ⟨by show j < 2 ^ 64; omega, by show p ≤ 64; omega⟩ ?_
    array_get_dec
    exact hk
  · have e : (List.range (p + 1)).map (fun k => D.int ((k ^ p : Nat) : Int)) = intL (powsI p) := by
      unfold intL powsI
      rw [List.map_map]; rfl
    rw [e]
    array_get_dec
    refine use_F (f' := fun l : List Int => [.lst (intL l)]) rfl rfl (powsI p) rfl (by show (powsI p).length ≤ 1000; rw [pows_len]; omega) ?_
    rw [show leadsI (powsI p).length (powsI p) = plD p by rw [pows_len]; rfl]
    array_get_dec
    exact h
theorem wp_psum (ds : List D) (Qd : D → List D → Prop) (Ed : Xn → Prop) (h : spSum ds Qd Ed) :
    ds.length = 2 ∧ RK.wSs CC (fun x _ => Ed x) ir17 (deOf false false Qd) (startE 3 false ds) := by
  obtain ⟨⟨p, n⟩, rfl, ⟨hp, hn⟩, h⟩ := h
  replace hp : p ≤ 20 := hp
  replace hn : n ≤ 1000000000 := hn
  replace h : Qd (.int (sumP p n : Nat)) [] := h
  refine ⟨rfl, ?_⟩
  show RK.wSs CC (fun x _ => Ed x) ir17 (deOf false false Qd) [.v (.int p), .v (.int n), .no]
  unfold ir17
  sizeOf_list_dec
  refine use_need rfl rfl rfl rfl (fun _ => ?_) fun h0 => by rw [fits_i (by omega) (by omega)] at h0; cases h0
  sizeOf_list_dec
  refine use_need rfl rfl rfl rfl (fun _ => ?_) fun h0 => by rw [fits_i (by omega) (by omega)] at h0; cases h0
  sizeOf_list_dec
  refine use_F (f' := oneI) rfl rfl p rfl hp ?_
  have ll : (plD p).length ≤ 21 := Nat.le_trans (leads_len _ _) (by omega)
  have lb : ∀ x ∈ plD p, x.natAbs < 2 ^ 512 := fun x hx => of_decide_eq_true (List.all_eq_true.mp (List.all_eq_true.mp pl_big p (List.mem_range.mpr (by omega))) x hx)
  have ps := psum hp n
  generalize plD p = l at *
  array_get_dec
  refine ⟨by unfold intL; rw [List.length_map]; exact Nat.le_trans (show 0 + 1 + l.length ≤ 100 by omega) (by decide), ?_⟩
  have e1 : (n : Int) + 1 = ((n + 1 : Nat) : Int) := by omega
  rw [e1]
  refine use_F (f' := fun x : List Int × Nat => [.lst (intL x.1), .int x.2]) rfl rfl (0 :: l, n + 1) rfl ⟨by show l.length + 1 ≤ 64; omega, fun x hx => by
    rcases List.mem_cons.mp hx with rfl | hx
    · exact Nat.pow_pos (by decide)
    · exact lb x hx, by show n + 1 < 2 ^ 62; omega⟩ ?_
  have e2 : nv (0 :: l) 0 (n + 1) = nv l 1 (n + 1) := by
    show 0 * (bin (n + 1) 0 : Int) + nv l 1 (n + 1) = _
    omega
  rw [e2]
  generalize nv l 1 (n + 1) = V at *
  array_get_dec
  by_cases c : p = 0
  · rw [if_pos c] at ps
    rw [decide_eq_true (show (p : Int) = 0 by omega)]
    array_get_dec
    rw [ps]
    exact h
  · rw [if_neg c] at ps
    rw [decide_eq_false (show ¬ (p : Int) = 0 by omega)]
    array_get_dec
    rw [ps]
    exact h
theorem brE_val {C : Ct} {E : Xn → En → Prop} {k : Bool} {a b : Ex} {ρ : En} {Q : R → En → Prop} {v : D} (h1 : k = true → ∀ Q' : R → En → Prop, Q' (.v v) ρ → RK.wE C a E ρ Q') (h2 : k = false → ∀ Q' : R → En → Prop, Q' (.v v) ρ → RK.wE C b E ρ Q') (q : Q (.v v) ρ) : brE C E k a b ρ Q := brE_by (fun h => h1 h _ q) (fun h => h2 h _ q)
theorem fold_snd {α β γ : Type} (f : α → γ → α) (g : β → γ → β) : ∀ (l : List γ) (a : α) (b : β), (l.foldl (fun (s : α × β) x => (f s.1 x, g s.2 x)) (a, b)).2 = l.foldl g b
  | [], _, _ => rfl
  | x :: l, a, b => fold_snd f g l (f a x) (g b x)
theorem coIn {p : Nat} (hp : p ≤ 20) {j : Nat} {x : Sh} (hx : (j, x) ∈ sIn p) : x.2 ∣ L0 ∧ 0 < x.2 ∧ (abI p (chooseN (p + 1)) (j, x)).natAbs < 2 ^ 64 ∧ j ≤ p ∧ (chooseN (p + 1)).getD j 0 < 2 ^ 64 := by
  have h := List.all_eq_true.mp (List.all_eq_true.mp co_in p (List.mem_range.mpr (by omega))) (j, x) hx
  simp only [Bool.and_eq_true, decide_eq_true_eq] at h
  exact ⟨h.1.1.1.1, h.1.1.1.2, h.1.1.2, h.1.2, h.2⟩
theorem wp_sumb (ds : List D) (Qd : D → List D → Prop) (Ed : Xn → Prop) (h : spSum ds Qd Ed) :
    ds.length = 2 ∧ RK.wSs CC (fun x _ => Ed x) ir10 (deOf false false Qd) (startE 8 false ds) := by
  obtain ⟨⟨p, n⟩, rfl, ⟨hp, hn⟩, h⟩ := h
  replace hp : p ≤ 20 := hp
  replace hn : n ≤ 1000000000 := hn
  replace h : Qd (.int (sumP p n : Nat)) [] := h
  refine ⟨rfl, ?_⟩
  show RK.wSs CC (fun x _ => Ed x) ir10 (deOf false false Qd) [.v (.int p), .v (.int n), .no, .no, .no, .no, .no, .no]
  unfold ir10
  sizeOf_list_dec
  refine use_need rfl rfl rfl rfl (fun _ => ?_) fun h0 => by rw [fits_i (by omega) (by omega)] at h0; cases h0
  sizeOf_list_dec
  refine use_need rfl rfl rfl rfl (fun _ => ?_) fun h0 => by rw [fits_i (by omega) (by omega)] at h0; cases h0
  sizeOf_list_dec
  have e1 : (p : Int) + 1 = ((p + 1 : Nat) : Int) := by omega
  rw [e1]
  refine use_F (f' := oneI) rfl rfl (p + 1) rfl (by show p + 1 ≤ 120; omega) ?_
  sizeOf_list_dec
  refine use_F (f' := oneI) rfl rfl p rfl (by show p ≤ 60; omega) ?_
  array_get_dec
  rw [enum_map]
  refine ⟨by decide, ?_⟩
  refine for_foldi (fun (s : Sh × List Int) (x : Nat × Sh) => (suT p (chooseN (p + 1)) n s.1 x, coS p (chooseN (p + 1)) s.2 x)) (fun s => [.v (.int p), .v (.int n), .v (.lst (nats (chooseN (p + 1)))), .v (.lst ((bTab.take (p + 1)).map encS)), .v (encS s.1), .no, .no, .no]) (fun i s => SI p n s.1 s.2 ∧ (ev s.2 n).natAbs ≤ i * 2 ^ 1000) (xs := sIn p) (s0 := ((0, 1), [])) ⟨SI.first p n, Nat.zero_le _⟩ ?_ ?_
  · rintro i ⟨t, c⟩ ⟨j, x⟩ k ⟨si, sb⟩ hx hg hk
    have hi : i < 21 := by
      have := (List.getElem?_eq_some_iff.mp hg).1
      unfold sIn at this
      rw [enumN_len, List.length_take] at this
      omega
    obtain ⟨c1, c2, c3, c4, c5⟩ := coIn hp hx
    have hm := enumN_mem _ _ _ hx
    have jl : j < (chooseN (p + 1)).length := by rw [len_ch]; show j < _; omega
    have sm := si.small
    have xL := Nat.le_of_dvd (by decide) c1
    have pw : n ^ (p + 1 - j) < 2 ^ 700 := by
      refine Nat.lt_of_le_of_lt (Nat.pow_le_pow_left (show n ≤ 2 ^ 30 by omega) _) ?_
      rw [← Nat.pow_mul]
      exact Nat.pow_lt_pow_right (by decide) (by omega)
    have evs : ev (coS p (chooseN (p + 1)) c (j, x)) n = ev c n + ((L0 / x.2 : Nat) : Int) * abI p (chooseN (p + 1)) (j, x) * ((n ^ (p + 1 - j) : Nat) : Int) := by
      unfold coS
      rw [ev_add, ev_mon, Int.natCast_pow]
    have w1 : (abI p (chooseN (p + 1)) (j, x) * ((n ^ (p + 1 - j) : Nat) : Int)).natAbs < 2 ^ 800 := mulB (a := 64) (b := 700) c3 (by rw [Int.natAbs_natCast]; exact pw) (by decide)
    have w2 : (((L0 / x.2 : Nat) : Int) * abI p (chooseN (p + 1)) (j, x) * ((n ^ (p + 1 - j) : Nat) : Int)).natAbs < 2 ^ 900 := by
      rw [Int.mul_assoc]
      exact mulB (a := 24) (b := 800) (by rw [Int.natAbs_natCast]; exact Nat.lt_of_le_of_lt (Nat.div_le_self _ _) (by decide)) w1 (by decide)
    have e9 : 2 ^ 900 ≤ 2 ^ 1000 := Nat.pow_le_pow_right (by decide) (by decide)
    have sb2 : (ev (coS p (chooseN (p + 1)) c (j, x)) n).natAbs ≤ (i + 1) * 2 ^ 1000 := by
      rw [evs]
      have := Int.natAbs_add_le (ev c n) (((L0 / x.2 : Nat) : Int) * abI p (chooseN (p + 1)) (j, x) * ((n ^ (p + 1 - j) : Nat) : Int))
      have sb : (ev c n).natAbs ≤ i * 2 ^ 1000 := sb
      rw [Nat.add_mul, Nat.one_mul]
      generalize 2 ^ 1000 = Z at *
      omega
    have hk := hk ⟨si.step c1 c2, sb2⟩
    replace hk : k [.v (.int p), .v (.int n), .v (.lst (nats (chooseN (p + 1)))), .v (.lst ((bTab.take (p + 1)).map encS)), .v (encS (shN (t.1 * x.2 + (if j = 1 then -x.1 else x.1) * (((chooseN (p + 1)).getD j 0 : Nat) : Int) * ((n ^ (p + 1 - j) : Nat) : Int) * t.2) (t.2 * x.2))), .no, .no, .no] := hk
    have tp := si.pos
    have tb : t.1.natAbs < 2 ^ 1005 := by
      have sb : (ev c n).natAbs ≤ i * 2 ^ 1000 := sb
      have e5 : (2 : Nat) ^ 1005 = 32 * 2 ^ 1000 := by rw [show 1005 = 5 + 1000 from rfl, Nat.pow_add]
      have e6 : i * 2 ^ 1000 ≤ 21 * 2 ^ 1000 := Nat.mul_le_mul_right _ (by omega)
      have e7 : 0 < 2 ^ 1000 := Nat.pow_pos (by decide)
      rw [e5]
      exact Nat.lt_of_le_of_lt (Nat.le_trans sm.2 (Nat.le_trans sb e6)) (Nat.mul_lt_mul_of_pos_right (by decide) e7)
    have t2L := sm.1
    clear sm
    generalize evs0 : ev (coS p (chooseN (p + 1)) c (j, x)) n = z at *
    clear evs0 evs w2 sb2 sb si hg hx
    generalize hrow : (chooseN (p + 1)).getD j 0 = w at *
    have ea : abI p (chooseN (p + 1)) (j, x) = (if j = 1 then -x.1 else x.1) * (w : Int) := by
      show (if j = 1 then -x.1 else x.1) * (((chooseN (p + 1)).getD j 0 : Nat) : Int) = _
      rw [hrow]
    rw [ea] at w1 c3
    have x1b : (if j = 1 then -x.1 else x.1).natAbs < 2 ^ 256 := by
      have := (bt (List.mem_of_mem_take hm.2.2)).1
      split
      · rw [Int.natAbs_neg]; exact this
      · exact this
    show asgT _ (.v (.tup [.int (j : Nat), encS x])) [_, _, _, _, .v (encS t), _, _, _] _
    simp only [encS]
    sizeOf_list_dec
    refine brE_val (v := .int (if j = 1 then -x.1 else x.1)) (fun hk Q' q => ?_) (fun hk Q' q => ?_) ?_
    · have : j = 1 := by rw [decide_eq_true_eq] at hk; omega
      rw [if_pos this] at q
      array_get_dec
      exact q
    · have : ¬ j = 1 := by rw [decide_eq_false_iff_not] at hk; omega
      rw [if_neg this] at q
      array_get_dec
      exact q
    generalize (if j = 1 then -x.1 else x.1) = y at *
    array_get_dec
    refine idx_nats jl ?_
    rw [hrow]
    have ep : (p : Int) + 1 - (j : Int) = ((p + 1 - j : Nat) : Int) := by omega
    array_get_dec
    refine ⟨mulR (by omega) (by omega), ?_⟩
    rw [ep]
    refine use_F (f' := fun x : Nat × Nat => [.int x.1, .int x.2]) rfl rfl (n, p + 1 - j) rfl ⟨by show n < 2 ^ 64; omega, by show p + 1 - j ≤ 64; omega⟩ ?_
    show RK.binD _ _ (.int ((n ^ (p + 1 - j) : Nat) : Int)) _
    generalize n ^ (p + 1 - j) = pv at *
    have tN : t.2 < 2 ^ 64 := Nat.lt_of_le_of_lt t2L (by decide)
    have xN : x.2 < 2 ^ 64 := Nat.lt_of_le_of_lt xL (by decide)
    have m1 : (t.1 * (x.2 : Int)).natAbs < 2 ^ 1100 := mulB (a := 1005) (b := 64) tb (by rw [Int.natAbs_natCast]; exact xN) (by decide)
    have m2 : (y * (w : Int) * (pv : Int) * (t.2 : Int)).natAbs < 2 ^ 1100 := mulB (a := 800) (b := 64) w1 (by rw [Int.natAbs_natCast]; exact tN) (by decide)
    have m3 : (t.1 * (x.2 : Int) + y * (w : Int) * (pv : Int) * (t.2 : Int)).natAbs < 2 ^ 2000 := addB m1 m2 (by decide)
    have m5 : t.2 * x.2 < 2 ^ 2000 := by
      have := mulB (x := (t.2 : Int)) (y := (x.2 : Int)) (a := 64) (b := 64) (c := 2000) (by rw [Int.natAbs_natCast]; exact tN) (by rw [Int.natAbs_natCast]; exact xN) (by decide)
      rw [← Int.natCast_mul, Int.natAbs_natCast] at this
      exact this
    array_get_dec
    refine ⟨big_mul (Nat.lt_of_lt_of_le c3 (Nat.pow_le_pow_right (by decide) (by decide))) (by rw [Int.natAbs_natCast]; exact Nat.lt_of_lt_of_le pw (Nat.pow_le_pow_right (by decide) (by decide))), ?_⟩
    clear m1 m2 w1 c3 pw tb
    refine ⟨mulR (by omega) (by omega), mulR (by omega) (by omega), mulR (by omega) (by omega), ?_⟩
    rw [← Int.natCast_mul t.2]
    refine ush _ _ m3 (Nat.mul_pos tp c2) m5 ?_
    array_get_dec
    exact hk
  · intro ⟨si, _⟩
    have fp : ((sIn p).foldl (fun (s : Sh × List Int) (x : Nat × Sh) => (suT p (chooseN (p + 1)) n s.1 x, coS p (chooseN (p + 1)) s.2 x)) ((0, 1), [])).2 = coP p := fold_snd _ _ _ _ _
    generalize (sIn p).foldl (fun (s : Sh × List Int) (x : Nat × Sh) => (suT p (chooseN (p + 1)) n s.1 x, coS p (chooseN (p + 1)) s.2 x)) ((0, 1), []) = T at *
    rw [fp] at si
    have dn := si.done hp
    have tp := si.pos
    have tN : T.1.2 < 2 ^ 64 := Nat.lt_of_le_of_lt si.small.1 (by decide)
    simp only [encS]
    array_get_dec
    have ec : ((T.1.2 : Nat) : Int) * ((p : Int) + 1) = ((T.1.2 * (p + 1) : Nat) : Int) := by rw [Int.natCast_mul, Int.natCast_add]; rfl
    have cp : 0 < T.1.2 * (p + 1) := Nat.mul_pos tp (by omega)
    have cb : T.1.2 * (p + 1) < 2 ^ 4200 := by
      have := mulB (x := (T.1.2 : Int)) (y := ((p + 1 : Nat) : Int)) (a := 64) (b := 64) (c := 4200) (by rw [Int.natAbs_natCast]; exact tN) (by rw [Int.natAbs_natCast]; omega) (by decide)
      rw [← Int.natCast_mul, Int.natAbs_natCast] at this
      exact this
    refine ⟨mulL (by omega) (by omega), by rw [ec]; exact big_div (by omega) (by rw [Int.natAbs_natCast]; exact cb), ?_⟩
    rw [dn]
    exact h
end RL
set_option pp.deepTerms.threshold 6
set_option pp.maxSteps 3000
namespace RL
open PySem PySem.Spec PyProof.Rows L2 RK
local macro_rules | `(tactic| array_get_dec) => `(tactic| try simp -dsimp only [↓RK.u_nil, ↓RK.u_cons, ↓RK.u_asg, ↓RK.u_par, ↓RK.u_aug, ↓RK.u_agK_i, ↓RK.u_agK_o, ↓RK.u_agI_a, ↓RK.u_agI_s, ↓RK.u_agL, ↓RK.u_sti, ↓RK.u_stiK_ow, ↓RK.u_stK_o, ↓RK.u_stK_i, ↓RK.u_ex, ↓RK.u_ifs, ↓RK.u_whil, ↓RK.u_for, ↓RK.u_forO, ↓RK.u_foK_o, ↓RK.u_itO0, ↓RK.u_itO1, ↓RK.u_ret, ↓RK.u_brk, ↓RK.u_cnt, ↓RK.u_pass, ↓RK.u_rai, ↓RK.u_fg, ↓RK.u_br1, ↓RK.u_br0, ↓RK.u_brE1, ↓RK.u_brE0, ↓RK.u_brT1, ↓RK.u_brT0, ↓RK.u_brF1, ↓RK.u_brF0, ↓RK.u_an1, ↓RK.u_an0, ↓RK.u_or1, ↓RK.u_or0, ↓RK.u_c21, ↓RK.u_c20, ↓RK.u_ts1, ↓RK.u_ts0, ↓RK.u_el1, ↓RK.u_el0, ↓RK.u_v, ↓RK.u_vK_v, ↓RK.u_vK_o, ↓RK.u_vK_i, ↓RK.u_c, ↓RK.u_g, ↓RK.u_gK, ↓RK.u_bin, ↓RK.u_neg, ↓RK.u_ngK, ↓RK.u_cmp, ↓RK.u_cmp2, ↓RK.u_and, ↓RK.u_or, ↓RK.u_not, ↓RK.u_ntK, ↓RK.u_ite, ↓RK.u_tup, ↓RK.u_lst, ↓RK.u_call, ↓RK.u_bi, ↓RK.u_isi, ↓RK.u_isK, ↓RK.u_idx, ↓RK.u_comp, ↓RK.u_slc, ↓RK.u_t_slc, ↓RK.u_izip, ↓RK.u_ienum, ↓RK.u_rev, ↓RK.u_rgv, ↓RK.u_meth, ↓RK.u_rs0, ↓RK.u_rs1, ↓RK.u_tAnd, ↓RK.u_tOr, ↓RK.u_tNot, ↓RK.u_tk, ↓RK.u_t_v, ↓RK.u_t_c, ↓RK.u_t_g, ↓RK.u_t_bin, ↓RK.u_t_cmp, ↓RK.u_t_cmp2, ↓RK.u_t_call, ↓RK.u_t_bi, ↓RK.u_t_isi, ↓RK.u_t_idx, ↓RK.u_t_meth, ↓RK.u_t_comp, ↓RK.u_ts_nil, ↓RK.u_ts_cons, ↓RK.u_ie, ↓RK.u_irng, ↓RK.u_kv, ↓RK.u_kf, ↓RK.u_kb, ↓RK.u_kbK_v, ↓RK.u_kbK_o, ↓RK.u_ks0, ↓RK.u_ks1, ↓RK.u_kBv, ↓RK.u_kBf, ↓RK.u_kBb, ↓RK.u_kBs0, ↓RK.u_kBs1, ↓RK.u_sR0, ↓RK.u_sR1, ↓RK.u_as0, ↓RK.u_as1, ↓RK.u_slv, ↓RK.u_slf, ↓RK.u_tv, ↓RK.u_tf, ↓RK.u_tb, ↓RK.u_tt, ↓RK.u_tl, ↓RK.u_tfl, ↓RK.u_gv, ↓RK.u_gf, ↓RK.u_gb, ↓RK.u_gs1, ↓RK.u_gs2, ↓RK.u_gs3, ↓RK.u_body, ↓RK.u_io_o, ↓RK.u_io_i, ↓RK.v_add_i, ↓RK.v_add_s, ↓RK.v_add_l, ↓RK.v_add_t, ↓RK.v_sub, ↓RK.v_mul, ↓RK.v_mul_l, ↓RK.v_fdiv, ↓RK.v_fdn, ↓RK.v_mod, ↓RK.v_pow, ↓RK.v_lt, ↓RK.v_le, ↓RK.v_gt, ↓RK.v_ge, ↓RK.v_eq_i, ↓RK.v_ne_i, ↓RK.v_eq_b, ↓RK.v_ne_b, ↓RK.v_eq_l, ↓RK.v_eq_t, ↓RK.v_ne_l, ↓RK.v_ne_t, ↓RK.v_eq_s, ↓RK.v_ne_s, ↓RK.v_is_b, ↓RK.v_is_nn, ↓RK.v_is_bn, ↓RK.v_is_in, ↓RK.v_is_sn, ↓RK.v_is_tn, ↓RK.v_is_ln, ↓RK.v_isn_b, ↓RK.v_isn_nn, ↓RK.v_isn_bn, ↓RK.v_isn_in, ↓RK.v_isn_sn, ↓RK.v_isn_tn, ↓RK.v_isn_ln, ↓RK.v_in_l, ↓RK.v_nin_l, ↓RK.v_in_t, ↓RK.v_nin_t, ↓RK.v_len_l, ↓RK.v_len_t, ↓RK.v_len_s, ↓RK.v_abs, ↓RK.v_int_i, ↓RK.v_int_b, ↓RK.v_str_i, ↓RK.v_tup_l, ↓RK.v_tup_t, ↓RK.v_lst_l, ↓RK.v_lst_t, ↓RK.v_lst_s, ↓RK.v_sum, ↓RK.v_sorted, ↓RK.v_sumT, ↓RK.v_sortedT, ↓RK.v_sortT, ↓RK.v_min2, ↓RK.v_max2, ↓RK.v_min, ↓RK.v_max, ↓RK.v_ix0, ↓RK.v_ix1, ↓RK.v_ix2, ↓RK.v_tx0, ↓RK.v_tx1, ↓RK.v_tx2, ↓RK.v_rng1, ↓RK.v_rng2, ↓RK.v_rng3, ↓RK.v_all, ↓RK.v_any, ↓RK.v_str_s, ↓RK.v_slc_l, ↓RK.v_slc_t, ↓RK.v_opt0, ↓RK.v_opt1, ↓RK.v_zip_l, ↓RK.v_zip_t, ↓RK.v_enum_l, ↓RK.v_enum_t, ↓RK.v_mul_t, ↓RK.v_rev, ↓RK.v_rgt1, ↓RK.v_rgl1, ↓RK.v_rgt2, ↓RK.v_rgl2, ↓RK.v_items_l, ↓RK.v_items_t, ↓RK.v_tru_n, ↓RK.v_tru_b, ↓RK.v_tru_i, ↓RK.v_tru_t, ↓RK.v_tru_l, ↓RK.v_isi_non_int, ↓RK.v_isi_non_bool, ↓RK.v_isi_non_tuple, ↓RK.v_isi_non_list, ↓RK.v_isi_non_str, ↓RK.v_isi_bl_int, ↓RK.v_isi_bl_bool, ↓RK.v_isi_bl_tuple, ↓RK.v_isi_bl_list, ↓RK.v_isi_bl_str, ↓RK.v_isi_int_int, ↓RK.v_isi_int_bool, ↓RK.v_isi_int_tuple, ↓RK.v_isi_int_list, ↓RK.v_isi_int_str, ↓RK.v_isi_str_int, ↓RK.v_isi_str_bool, ↓RK.v_isi_str_tuple, ↓RK.v_isi_str_list, ↓RK.v_isi_str_str, ↓RK.v_isi_tup_int, ↓RK.v_isi_tup_bool, ↓RK.v_isi_tup_tuple, ↓RK.v_isi_tup_list, ↓RK.v_isi_tup_str, ↓RK.v_isi_lst_int, ↓RK.v_isi_lst_bool, ↓RK.v_isi_lst_tuple, ↓RK.v_isi_lst_list, ↓RK.v_isi_lst_str, ↓RK.v_nio0, ↓RK.v_nio1, ↓RK.v_fr_no, ↓RK.v_fr_v, ↓RK.v_fr_ow, ↓RK.v_sx0, ↓RK.v_sx1, ↓RK.v_app, ↓RK.v_apK, ↓RK.v_rem, ↓RK.v_rmK, ↓RK.v_pat, ↓RK.v_paK, ↓RK.v_cnt, ↓RK.v_cntD, ↓RK.v_pop, ↓RK.v_poK, RK.isL, RK.Lt.d, List.getElem?_cons_zero, List.getElem?_cons_succ, List.set_cons_zero, List.set_cons_succ, List.map_cons, List.map_nil, RK.fgE, RK.fg1, RK.wipeE, RK.backE, RK.isOwn, List.forall_mem_cons, List.not_mem_nil, false_imp_iff, implies_true, List.length_cons, List.length_nil, Bool.not_true, Bool.not_false, and_true, true_and, ↓reduceIte, RK.intsD, RK.flatD, decide_true, decide_false, Bool.false_eq_true, reduceCtorEq, ↓RL.cd0, ↓RL.cd1, ↓RL.cd2, ↓RL.cd3, ↓RL.cd4, ↓RL.cd5, ↓RL.cd6, ↓RL.cd7, ↓RL.cd8, ↓RL.cd9, ↓RL.cd10, ↓RL.cd11, ↓RL.cd12, ↓RL.cd13, ↓RL.cd14, ↓RL.cd15, ↓RL.cd16, ↓RL.cd17, ↓RL.cd18, ↓RL.cd19, ↓RL.cd20, ↓RL.cd21, ↓RL.cd22, ↓RL.cd23, ↓RL.cd24, RL.gl_BERNOULLI, RL.gl_FORM, RL.gl_GREAT, RL.gl_POWER, RL.gl_MANY])
local macro_rules | `(tactic| array_mem_dec) => `(tactic| first | omega | decide | exact RK.sz (by omega) | exact RK.szl (by omega) | exact RK.sz (by simp only [List.length_append, List.length_cons, List.length_nil, List.length_map, List.length_range, List.length_replicate, RK.nats_len, RK.pil_len, List.length_nil]; omega) | exact RK.szl (by simp only [List.length_append, List.length_cons, List.length_nil, List.length_map, List.length_range, List.length_replicate, RK.nats_len, RK.pil_len, List.length_nil]; omega) | exact RK.cdiv (by omega) (by omega) | exact RK.mulR (by omega) (by omega) | exact RK.mulL (by omega) (by omega) | exact ⟨by omega, by omega⟩ | exact ⟨by decide, by decide, by decide⟩ | exact RK.eok_nil | assumption)
local macro_rules | `(tactic| sizeOf_list_dec) => `(tactic| (array_get_dec; repeat (refine And.intro (by array_mem_dec) ?_)))
theorem lf_some {n : Nat} (h0 : 0 < n) (h : n ≤ 62) : ∃ r, runF lfS 64 ([], n, 2) = some r ∧ r.1 = facT n := by
  have := List.all_eq_true.mp lf_ok (n - 1) (List.mem_range.mpr (by omega))
  rw [show n - 1 + 1 = n by omega] at this
  obtain ⟨r, hr⟩ := Option.isSome_iff_exists.mp this
  refine ⟨r, hr, ?_⟩
  unfold facT
  rw [hr]; rfl
theorem dvd_mod {p n : Nat} : decide (((n : Int) % (p : Int)) = 0) = decide (n % p = 0) := decide_eq_decide.mpr (by omega)
theorem wp_lfac (ds : List D) (Qd : D → List D → Prop) (Ed : Xn → Prop) (h : spLFac ds Qd Ed) :
    ds.length = 1 ∧ RK.wSs CC (fun x _ => Ed x) ir22 (deOf false false Qd) (startE 5 false ds) := by
  obtain ⟨n, rfl, ⟨n0, nN⟩, h⟩ := h
  replace n0 : 0 < n := n0
  replace nN : n ≤ 62 := nN
  replace h : Qd (.tup ((facT n).map encP)) [] := h
  refine ⟨rfl, ?_⟩
  show RK.wSs CC (fun x _ => Ed x) ir22 (deOf false false Qd) [.v (.int n), .no, .no, .no, .no]
  unfold ir22
  obtain ⟨r, hr, er⟩ := lf_some n0 nN
  rw [← er] at h
  clear er
  sizeOf_list_dec
  refine whl_runP (S := List (Nat × Nat) × Nat × Nat) lfS (fun s => [.no, .ow (s.1.map encP), .v (.int (s.2.1 : Nat)), .v (.int (s.2.2 : Nat)), .no]) (fun k s => 0 < s.2.1 ∧ s.2.1 ≤ 62 ∧ 2 ≤ s.2.2 ∧ s.2.2 ≤ 64 ∧ s.1.length + k ≤ 64) hr ⟨n0, nN, Nat.le_refl _, by show 2 ≤ 64; decide, Nat.le_refl _⟩ ?_ ?_ ?_
  · rintro k ⟨f, l, p⟩ s' ⟨h1, h2, h3, h4, h5⟩ e
    replace h1 : 0 < l := h1
    replace h2 : l ≤ 62 := h2
    replace h3 : 2 ≤ p := h3
    replace h5 : f.length + (k + 1) ≤ 64 := h5
    unfold lfS at e
    dsimp only at e
    split at e
    · rename_i l1
      cases e
      generalize hq : (if l < p * p then l else p) = q at *
      have q2 : 2 ≤ q ∧ q ≤ 62 := by
        rw [← hq]
        split
        · omega
        · have := Nat.mul_le_mul_right p h3
          omega
      have sp := str_pos 64 q (l, 0) q2.1 h1
      refine ⟨sp.1, Nat.le_trans sp.2.1 h2, by show 2 ≤ q + 1; omega, by show q + 1 ≤ 64; omega, ?_⟩
      show (f ++ onP q _).length + k ≤ 64
      rw [List.length_append]
      unfold onP
      split <;> simp <;> omega
    · cases e
  · array_get_dec
    exact h
  · rintro k ⟨f, l, p⟩ ⟨h1, h2, h3, h4, h5⟩ nx' hs hn
    replace h1 : 0 < l := h1
    replace h2 : l ≤ 62 := h2
    replace h3 : 2 ≤ p := h3
    replace h4 : p ≤ 64 := h4
    replace h5 : f.length + (k + 1) ≤ 64 := h5
    unfold lfS at hs hn
    dsimp only at hs hn
    array_get_dec
    refine brK_by (fun hc => ?_) fun hc => ?_
    · rw [decide_eq_true_eq] at hc
      have l1 : 1 < l := by omega
      rw [if_pos l1] at hs
      have hs := hs _ rfl
      clear hn
      have sq : (p : Int) * p = ((p * p : Nat) : Int) := (Int.natCast_mul p p).symm
      sizeOf_list_dec
      rw [sq]
      refine brK_by (fun hc2 => ?_) fun hc2 => ?_
      · rw [decide_eq_true_eq] at hc2
        rw [if_pos (show l < p * p by omega)] at hs
        have q2 : 2 ≤ l ∧ l ≤ 62 := ⟨by omega, h2⟩
        clear sq hc2
        sizeOf_list_dec
        refine whl_inv (fun m ρ => ∃ a c : Nat, 0 < a ∧ a < 2 ^ m ∧ m ≤ 64 ∧ strF m l (a, c) = strF 64 l (l, 0) ∧ ρ = [.no, .ow (f.map encP), .v (.int a), .v (.int l), .v (.int c)]) 64 ⟨l, 0, h1, Nat.lt_of_le_of_lt h2 (by decide), Nat.le_refl _, rfl, rfl⟩ ?_
        rintro m ρ ⟨a, c, a0, a1, m1, hT, rfl⟩
        array_get_dec
        refine ⟨by omega, ?_⟩
        rw [dvd_mod]
        refine brK_by (fun hc => ?_) fun hc => ?_
        · rw [decide_eq_true_eq] at hc
          array_get_dec
          refine ⟨cdiv (by omega) (by omega), ?_⟩
          cases m with
          | zero => exact absurd a1 (by show ¬ a < 1; omega)
          | succ m =>
            have e1 : strF (m + 1) l (a, c) = strF m l (a / l, c + 1) := if_pos hc
            rw [e1] at hT
            have h3 : 0 < a / l := Nat.div_pos (Nat.le_of_dvd a0 (Nat.dvd_of_mod_eq_zero hc)) (by omega)
            have h4 : a / l < 2 ^ m := by
              rw [Nat.div_lt_iff_lt_mul (by omega)]
              rw [Nat.pow_succ] at a1
              exact Nat.lt_of_lt_of_le a1 (Nat.mul_le_mul_left _ q2.1)
            exact ⟨m, Nat.lt_succ_self _, a / l, c + 1, h3, h4, by omega, hT, by rw [Int.natCast_ediv, Int.natCast_add]; rfl⟩
        · rw [decide_eq_false_iff_not] at hc
          have e1 : strF m l (a, c) = (a, c) := by
            cases m with
            | zero => rfl
            | succ m => exact if_neg hc
          rw [e1] at hT
          rw [← hT] at hs
          unfold onP at hs
          array_get_dec
          by_cases c0 : 0 < c
          · rw [if_pos c0] at hs
            rw [decide_eq_true (show (0 : Int) < (c : Int) by omega)]
            array_get_dec
            rw [encP_snoc]
            refine ⟨by decide, by decide, by rw [List.length_map]; exact Nat.le_trans (show f.length + (0 + 1) ≤ 100 by omega) (by decide), ?_⟩
            exact hs
          · rw [if_neg c0, List.append_nil] at hs
            rw [decide_eq_false (show ¬ (0 : Int) < (c : Int) by omega)]
            array_get_dec
            rw [List.append_nil]
            refine ⟨by decide, by rw [List.length_map]; exact Nat.le_trans (show f.length + 0 ≤ 100 by omega) (by decide), hs⟩
      · rw [decide_eq_false_iff_not] at hc2
        rw [if_neg (show ¬ l < p * p by omega)] at hs
        have q2 : 2 ≤ p ∧ p ≤ 62 := ⟨h3, by have := Nat.mul_le_mul_right p h3; omega⟩
        clear sq hc2
        sizeOf_list_dec
        refine whl_inv (fun m ρ => ∃ a c : Nat, 0 < a ∧ a < 2 ^ m ∧ m ≤ 64 ∧ strF m p (a, c) = strF 64 p (l, 0) ∧ ρ = [.no, .ow (f.map encP), .v (.int a), .v (.int p), .v (.int c)]) 64 ⟨l, 0, h1, Nat.lt_of_le_of_lt h2 (by decide), Nat.le_refl _, rfl, rfl⟩ ?_
        rintro m ρ ⟨a, c, a0, a1, m1, hT, rfl⟩
        array_get_dec
        refine ⟨by omega, ?_⟩
        rw [dvd_mod]
        refine brK_by (fun hc => ?_) fun hc => ?_
        · rw [decide_eq_true_eq] at hc
          array_get_dec
          refine ⟨cdiv (by omega) (by omega), ?_⟩
          cases m with
          | zero => exact absurd a1 (by show ¬ a < 1; omega)
          | succ m =>
            have e1 : strF (m + 1) p (a, c) = strF m p (a / p, c + 1) := if_pos hc
            rw [e1] at hT
            have h3 : 0 < a / p := Nat.div_pos (Nat.le_of_dvd a0 (Nat.dvd_of_mod_eq_zero hc)) (by omega)
            have h4 : a / p < 2 ^ m := by
              rw [Nat.div_lt_iff_lt_mul (by omega)]
              rw [Nat.pow_succ] at a1
              exact Nat.lt_of_lt_of_le a1 (Nat.mul_le_mul_left _ q2.1)
            exact ⟨m, Nat.lt_succ_self _, a / p, c + 1, h3, h4, by omega, hT, by rw [Int.natCast_ediv, Int.natCast_add]; rfl⟩
        · rw [decide_eq_false_iff_not] at hc
          have e1 : strF m p (a, c) = (a, c) := by
            cases m with
            | zero => rfl
            | succ m => exact if_neg hc
          rw [e1] at hT
          rw [← hT] at hs
          unfold onP at hs
          array_get_dec
          by_cases c0 : 0 < c
          · rw [if_pos c0] at hs
            rw [decide_eq_true (show (0 : Int) < (c : Int) by omega)]
            array_get_dec
            rw [encP_snoc]
            refine ⟨by decide, by decide, by rw [List.length_map]; exact Nat.le_trans (show f.length + (0 + 1) ≤ 100 by omega) (by decide), ?_⟩
            exact hs
          · rw [if_neg c0, List.append_nil] at hs
            rw [decide_eq_false (show ¬ (0 : Int) < (c : Int) by omega)]
            array_get_dec
            rw [List.append_nil]
            refine ⟨by decide, by rw [List.length_map]; exact Nat.le_trans (show f.length + 0 ≤ 100 by omega) (by decide), hs⟩
    · rw [decide_eq_false_iff_not] at hc
      rw [if_neg (show ¬ 1 < l by omega)] at hn
      exact hn rfl
end RL
set_option pp.deepTerms.threshold 6
set_option pp.maxSteps 3000
namespace RL
open PySem PySem.Spec PyProof.Rows L2 RK
local macro_rules | `(tactic| array_get_dec) => `(tactic| try simp -dsimp only [↓RK.u_nil, ↓RK.u_cons, ↓RK.u_asg, ↓RK.u_par, ↓RK.u_aug, ↓RK.u_agK_i, ↓RK.u_agK_o, ↓RK.u_agI_a, ↓RK.u_agI_s, ↓RK.u_agL, ↓RK.u_sti, ↓RK.u_stiK_ow, ↓RK.u_stK_o, ↓RK.u_stK_i, ↓RK.u_ex, ↓RK.u_ifs, ↓RK.u_whil, ↓RK.u_for, ↓RK.u_forO, ↓RK.u_foK_o, ↓RK.u_itO0, ↓RK.u_itO1, ↓RK.u_ret, ↓RK.u_brk, ↓RK.u_cnt, ↓RK.u_pass, ↓RK.u_rai, ↓RK.u_fg, ↓RK.u_br1, ↓RK.u_br0, ↓RK.u_brE1, ↓RK.u_brE0, ↓RK.u_brT1, ↓RK.u_brT0, ↓RK.u_brF1, ↓RK.u_brF0, ↓RK.u_an1, ↓RK.u_an0, ↓RK.u_or1, ↓RK.u_or0, ↓RK.u_c21, ↓RK.u_c20, ↓RK.u_ts1, ↓RK.u_ts0, ↓RK.u_el1, ↓RK.u_el0, ↓RK.u_v, ↓RK.u_vK_v, ↓RK.u_vK_o, ↓RK.u_vK_i, ↓RK.u_c, ↓RK.u_g, ↓RK.u_gK, ↓RK.u_bin, ↓RK.u_neg, ↓RK.u_ngK, ↓RK.u_cmp, ↓RK.u_cmp2, ↓RK.u_and, ↓RK.u_or, ↓RK.u_not, ↓RK.u_ntK, ↓RK.u_ite, ↓RK.u_tup, ↓RK.u_lst, ↓RK.u_call, ↓RK.u_bi, ↓RK.u_isi, ↓RK.u_isK, ↓RK.u_idx, ↓RK.u_comp, ↓RK.u_slc, ↓RK.u_t_slc, ↓RK.u_izip, ↓RK.u_ienum, ↓RK.u_rev, ↓RK.u_rgv, ↓RK.u_meth, ↓RK.u_rs0, ↓RK.u_rs1, ↓RK.u_tAnd, ↓RK.u_tOr, ↓RK.u_tNot, ↓RK.u_tk, ↓RK.u_t_v, ↓RK.u_t_c, ↓RK.u_t_g, ↓RK.u_t_bin, ↓RK.u_t_cmp, ↓RK.u_t_cmp2, ↓RK.u_t_call, ↓RK.u_t_bi, ↓RK.u_t_isi, ↓RK.u_t_idx, ↓RK.u_t_meth, ↓RK.u_t_comp, ↓RK.u_ts_nil, ↓RK.u_ts_cons, ↓RK.u_ie, ↓RK.u_irng, ↓RK.u_kv, ↓RK.u_kf, ↓RK.u_kb, ↓RK.u_kbK_v, ↓RK.u_kbK_o, ↓RK.u_ks0, ↓RK.u_ks1, ↓RK.u_kBv, ↓RK.u_kBf, ↓RK.u_kBb, ↓RK.u_kBs0, ↓RK.u_kBs1, ↓RK.u_sR0, ↓RK.u_sR1, ↓RK.u_as0, ↓RK.u_as1, ↓RK.u_slv, ↓RK.u_slf, ↓RK.u_tv, ↓RK.u_tf, ↓RK.u_tb, ↓RK.u_tt, ↓RK.u_tl, ↓RK.u_tfl, ↓RK.u_gv, ↓RK.u_gf, ↓RK.u_gb, ↓RK.u_gs1, ↓RK.u_gs2, ↓RK.u_gs3, ↓RK.u_body, ↓RK.u_io_o, ↓RK.u_io_i, ↓RK.v_add_i, ↓RK.v_add_s, ↓RK.v_add_l, ↓RK.v_add_t, ↓RK.v_sub, ↓RK.v_mul, ↓RK.v_mul_l, ↓RK.v_fdiv, ↓RK.v_fdn, ↓RK.v_mod, ↓RK.v_pow, ↓RK.v_lt, ↓RK.v_le, ↓RK.v_gt, ↓RK.v_ge, ↓RK.v_eq_i, ↓RK.v_ne_i, ↓RK.v_eq_b, ↓RK.v_ne_b, ↓RK.v_eq_l, ↓RK.v_eq_t, ↓RK.v_ne_l, ↓RK.v_ne_t, ↓RK.v_eq_s, ↓RK.v_ne_s, ↓RK.v_is_b, ↓RK.v_is_nn, ↓RK.v_is_bn, ↓RK.v_is_in, ↓RK.v_is_sn, ↓RK.v_is_tn, ↓RK.v_is_ln, ↓RK.v_isn_b, ↓RK.v_isn_nn, ↓RK.v_isn_bn, ↓RK.v_isn_in, ↓RK.v_isn_sn, ↓RK.v_isn_tn, ↓RK.v_isn_ln, ↓RK.v_in_l, ↓RK.v_nin_l, ↓RK.v_in_t, ↓RK.v_nin_t, ↓RK.v_len_l, ↓RK.v_len_t, ↓RK.v_len_s, ↓RK.v_abs, ↓RK.v_int_i, ↓RK.v_int_b, ↓RK.v_str_i, ↓RK.v_tup_l, ↓RK.v_tup_t, ↓RK.v_lst_l, ↓RK.v_lst_t, ↓RK.v_lst_s, ↓RK.v_sum, ↓RK.v_sorted, ↓RK.v_sumT, ↓RK.v_sortedT, ↓RK.v_sortT, ↓RK.v_min2, ↓RK.v_max2, ↓RK.v_min, ↓RK.v_max, ↓RK.v_ix0, ↓RK.v_ix1, ↓RK.v_ix2, ↓RK.v_tx0, ↓RK.v_tx1, ↓RK.v_tx2, ↓RK.v_rng1, ↓RK.v_rng2, ↓RK.v_rng3, ↓RK.v_all, ↓RK.v_any, ↓RK.v_str_s, ↓RK.v_slc_l, ↓RK.v_slc_t, ↓RK.v_opt0, ↓RK.v_opt1, ↓RK.v_zip_l, ↓RK.v_zip_t, ↓RK.v_enum_l, ↓RK.v_enum_t, ↓RK.v_mul_t, ↓RK.v_rev, ↓RK.v_rgt1, ↓RK.v_rgl1, ↓RK.v_rgt2, ↓RK.v_rgl2, ↓RK.v_items_l, ↓RK.v_items_t, ↓RK.v_tru_n, ↓RK.v_tru_b, ↓RK.v_tru_i, ↓RK.v_tru_t, ↓RK.v_tru_l, ↓RK.v_isi_non_int, ↓RK.v_isi_non_bool, ↓RK.v_isi_non_tuple, ↓RK.v_isi_non_list, ↓RK.v_isi_non_str, ↓RK.v_isi_bl_int, ↓RK.v_isi_bl_bool, ↓RK.v_isi_bl_tuple, ↓RK.v_isi_bl_list, ↓RK.v_isi_bl_str, ↓RK.v_isi_int_int, ↓RK.v_isi_int_bool, ↓RK.v_isi_int_tuple, ↓RK.v_isi_int_list, ↓RK.v_isi_int_str, ↓RK.v_isi_str_int, ↓RK.v_isi_str_bool, ↓RK.v_isi_str_tuple, ↓RK.v_isi_str_list, ↓RK.v_isi_str_str, ↓RK.v_isi_tup_int, ↓RK.v_isi_tup_bool, ↓RK.v_isi_tup_tuple, ↓RK.v_isi_tup_list, ↓RK.v_isi_tup_str, ↓RK.v_isi_lst_int, ↓RK.v_isi_lst_bool, ↓RK.v_isi_lst_tuple, ↓RK.v_isi_lst_list, ↓RK.v_isi_lst_str, ↓RK.v_nio0, ↓RK.v_nio1, ↓RK.v_fr_no, ↓RK.v_fr_v, ↓RK.v_fr_ow, ↓RK.v_sx0, ↓RK.v_sx1, ↓RK.v_app, ↓RK.v_apK, ↓RK.v_rem, ↓RK.v_rmK, ↓RK.v_pat, ↓RK.v_paK, ↓RK.v_cnt, ↓RK.v_cntD, ↓RK.v_pop, ↓RK.v_poK, RK.isL, RK.Lt.d, List.getElem?_cons_zero, List.getElem?_cons_succ, List.set_cons_zero, List.set_cons_succ, List.map_cons, List.map_nil, RK.fgE, RK.fg1, RK.wipeE, RK.backE, RK.isOwn, List.forall_mem_cons, List.not_mem_nil, false_imp_iff, implies_true, List.length_cons, List.length_nil, Bool.not_true, Bool.not_false, and_true, true_and, ↓reduceIte, RK.intsD, RK.flatD, decide_true, decide_false, Bool.false_eq_true, reduceCtorEq, ↓RL.cd0, ↓RL.cd1, ↓RL.cd2, ↓RL.cd3, ↓RL.cd4, ↓RL.cd5, ↓RL.cd6, ↓RL.cd7, ↓RL.cd8, ↓RL.cd9, ↓RL.cd10, ↓RL.cd11, ↓RL.cd12, ↓RL.cd13, ↓RL.cd14, ↓RL.cd15, ↓RL.cd16, ↓RL.cd17, ↓RL.cd18, ↓RL.cd19, ↓RL.cd20, ↓RL.cd21, ↓RL.cd22, ↓RL.cd23, ↓RL.cd24, RL.gl_BERNOULLI, RL.gl_FORM, RL.gl_GREAT, RL.gl_POWER, RL.gl_MANY])
local macro_rules | `(tactic| array_mem_dec) => `(tactic| first | omega | decide | exact RK.sz (by omega) | exact RK.szl (by omega) | exact RK.sz (by simp only [List.length_append, List.length_cons, List.length_nil, List.length_map, List.length_range, List.length_replicate, RK.nats_len, RK.pil_len, List.length_nil]; omega) | exact RK.szl (by simp only [List.length_append, List.length_cons, List.length_nil, List.length_map, List.length_range, List.length_replicate, RK.nats_len, RK.pil_len, List.length_nil]; omega) | exact RK.cdiv (by omega) (by omega) | exact RK.mulR (by omega) (by omega) | exact RK.mulL (by omega) (by omega) | exact ⟨by omega, by omega⟩ | exact ⟨by decide, by decide, by decide⟩ | exact RK.eok_nil | assumption)
local macro_rules | `(tactic| sizeOf_list_dec) => `(tactic| (array_get_dec; repeat (refine And.intro (by array_mem_dec) ?_)))
theorem lwFacts {P : Nat} (h0 : 0 < P) (h1 : P ≤ 60) : scan (lwS P) lwB (List.range (P + 1)) ((0, 1), 1) = true ∧ ((List.range (P + 1)).foldl (lwS P) ((0, 1), 1)).1.1 = 0 := by
  have h := List.all_eq_true.mp lw_ok (P - 1) (List.mem_range.mpr (by omega))
  rw [Bool.and_eq_true, decide_eq_true_eq, show P - 1 + 1 = P by omega, show P - 1 + 2 = P + 1 by omega] at h
  exact h
theorem lwB_iff {s : Sh × Nat} : lwB s = true ↔ (s.1.1.natAbs < 2 ^ 4096 ∧ s.1.2 < 2 ^ 4096) ∧ s.2 < 2 ^ 64 := by
  unfold lwB
  rw [Bool.and_eq_true, Bool.and_eq_true, decide_eq_true_eq, decide_eq_true_eq, decide_eq_true_eq]
theorem evFacts {k : Nat} (hk : k < 30) : scan evS evB (dueN (2 + 2 * k)) ((bTab.getD (2 + 2 * k) (0, 1)).1, (bTab.getD (2 + 2 * k) (0, 1)).2, 1) = true ∧ pbN (2 + 2 * k) = dueN (2 + 2 * k) ∧ (bTab.getD (2 + 2 * k) (0, 1)).2 = ((dueN (2 + 2 * k)).foldl evS ((bTab.getD (2 + 2 * k) (0, 1)).1, (bTab.getD (2 + 2 * k) (0, 1)).2, 1)).2.2 ∧ ((dueN (2 + 2 * k)).foldl evS ((bTab.getD (2 + 2 * k) (0, 1)).1, (bTab.getD (2 + 2 * k) (0, 1)).2, 1)).1 % (((dueN (2 + 2 * k)).foldl evS ((bTab.getD (2 + 2 * k) (0, 1)).1, (bTab.getD (2 + 2 * k) (0, 1)).2, 1)).2.1 : Int) = 0 ∧ ∀ p ∈ dueN (2 + 2 * k), p < 64 := by
  have h := List.all_eq_true.mp ev_ok k (List.mem_range.mpr hk)
  have h2 := List.all_eq_true.mp due_small k (List.mem_range.mpr hk)
  simp only [Bool.and_eq_true, decide_eq_true_eq] at h
  exact ⟨h.1.1.1, h.1.1.2, h.1.2, h.2, fun p hp => of_decide_eq_true (List.all_eq_true.mp h2 p hp)⟩
theorem evB_iff {s : Int × Nat × Nat} : evB s = true ↔ ((s.1.natAbs < 2 ^ 4096 ∧ s.2.1 < 2 ^ 4096) ∧ s.2.2 < 2 ^ 4096) ∧ 0 < s.2.1 := by
  unfold evB
  rw [Bool.and_eq_true, Bool.and_eq_true, Bool.and_eq_true, decide_eq_true_eq, decide_eq_true_eq, decide_eq_true_eq, decide_eq_true_eq]
theorem eqF {n : Nat} (h0 : 0 < n) (h : n ≤ 62) : eqD (.tup ((facT n).map encP)) (.tup [.tup [.int (n : Nat), .int 1]]) = isP n := by
  have := List.all_eq_true.mp eq_ok (n - 1) (List.mem_range.mpr (by omega))
  rw [show n - 1 + 1 = n by omega, beq_iff_eq] at this
  exact this
theorem encP_eokF (n : Nat) : EqOk (.tup ((facT n).map encP)) ∧ EqOk (.tup [.tup [.int (n : Nat), .int 1]]) := by
  have pp : ∀ x : Nat × Nat, (encP x).pl = true ∧ (encP x).dep ≤ 59 := fun x => pd_mono (pd_t (n := 0) fun d hd => by
    rcases List.mem_cons.mp hd with rfl | hd
    · exact pd_int
    · rw [List.mem_singleton.mp hd]; exact pd_int) (by decide)
  refine ⟨eok_t fun d hd => ?_, eok_t fun d hd => ?_⟩
  · obtain ⟨x, _, rfl⟩ := List.mem_map.mp hd
    exact pp x
  · rw [List.mem_singleton.mp hd]
    exact pp (n, 1)
theorem due_fm (e : Nat) (l : List Nat) : l.filterMap (fun k => if (isP (2 + k) && decide (e % (2 + k - 1) = 0)) = true then some (D.int ((2 + k : Nat) : Int)) else none) = nats ((l.map (2 + ·)).filter fun p => isP p && decide (e % (p - 1) = 0)) := by
  induction l with
  | nil => rfl
  | cons k l ih =>
    rw [List.filterMap_cons, List.map_cons, List.filter_cons]
    cases isP (2 + k) && decide (e % (2 + k - 1) = 0)
    · exact ih
    · show _ :: _ = _ :: _
      rw [ih]; rfl
theorem odFacts {k : Nat} (hk : k < 29) : bTab.getD (3 + 2 * k) (0, 1) = (0, 1) ∧ pbN (3 + 2 * k) = [] := by
  have h := List.all_eq_true.mp od_ok k (List.mem_range.mpr hk)
  rw [Bool.and_eq_true, decide_eq_true_eq, decide_eq_true_eq] at h
  exact h
theorem sum_pow (p : Nat) : ∀ n : Nat, ((List.range n).map fun k => (1 + k) ^ p).sum = sumP p n
  | 0 => rfl
  | n + 1 => by
    rw [List.range_succ, List.map_append, List.sum_append, sum_pow p n]
    show sumP p n + ((1 + n) ^ p + 0) = sumP p n + (n + 1) ^ p
    rw [Nat.add_comm 1 n]; rfl
theorem wp_law (ds : List D) (Qd : D → List D → Prop) (Ed : Xn → Prop) (h : spLaw ds Qd Ed) :
    ds.length = 1 ∧ RK.wSs CC (fun x _ => Ed x) ir24 (deOf false false Qd) (startE 18 false ds) := by
  obtain ⟨ns, rfl, hl, h⟩ := h
  refine ⟨rfl, ?_⟩
  show RK.wSs CC (fun x _ => Ed x) ir24 (deOf false false Qd) [.v (.sc ns), .no, .no, .no, .no, .no, .no, .no, .no, .no, .no, .no, .no, .no, .no, .no, .no, .no]
  have ub : ∀ (n : Nat), n ≤ 60 → ∀ {kf : List D → En} {ρ' : En} {Q : R → En → Prop}, Q (.v (encS (bTab.getD n (0, 1)))) (kf []) → finD CC 7 (fun x _ => Ed x) kf ρ' Q [.int (n : Nat)] := fun n hn _ _ _ q => use_F (f' := oneI) rfl rfl n rfl hn q
  have up : ∀ (n : Nat), n ≤ 60 → ∀ {kf : List D → En} {ρ' : En} {Q : R → En → Prop}, Q (.v (.tup (nats (pbN n)))) (kf []) → finD CC 9 (fun x _ => Ed x) kf ρ' Q [.int (n : Nat)] := fun n hn _ _ _ q => use_F (f' := oneI) rfl rfl n rfl hn q
  unfold ir24
  array_get_dec
  refine use_cup rfl rfl hl fun c hc => ?_
  sizeOf_list_dec
  refine use_roll rfl rfl hc (by decide) (by decide) fun pl c p0 p1 hc => ?_
  obtain ⟨P, eP, P0, PN⟩ : ∃ P : Nat, 1 + pl = (P : Int) ∧ 0 < P ∧ P ≤ 60 := ⟨(1 + pl).toNat, by omega, by omega, by omega⟩
  sizeOf_list_dec
  rw [eP]
  clear eP p0 p1
  rw [show ((P : Int) + 1).toNat = P + 1 by omega]
  obtain ⟨l1, l2⟩ := lwFacts P0 PN
  refine for_scan (lwS P) (fun s => [.no, .ow c, .v (.int P), .v (encS s.1), .v (.int (s.2 : Nat)), .no, .no, .no, .no, .no, .no, .no, .no, .no, .no, .no, .no, .no]) lwB (xs := List.range (P + 1)) (e := fun k : Nat => D.int (k : Int)) (s0 := ((0, 1), 1)) l1 ?_ ?_
  · rintro ⟨t, m⟩ j k o1 o2 hj hk
    rw [List.mem_range] at hj
    obtain ⟨⟨o11, o12⟩, o13⟩ := lwB_iff.mp o1
    replace o11 : t.1.natAbs < 2 ^ 4096 := o11
    replace o12 : t.2 < 2 ^ 4096 := o12
    replace o13 : m < 2 ^ 64 := o13
    unfold lwS at hk
    simp only [encS]
    array_get_dec
    refine ub j (by omega) ?_
    obtain ⟨x1, x2, x3, x4⟩ := bt (bgt (show j ≤ 60 by omega))
    generalize bTab.getD j (0, 1) = x at *
    clear o1 o2
    simp only [encS]
    array_get_dec
    rw [decide_eq_false (show ¬ (x.2 : Int) < 1 by omega)]
    array_get_dec
    refine use_F (f' := fun x : Int × Int => [.int x.1, .int x.2]) rfl rfl (x.1, (x.2 : Int)) rfl trivial ?_
    rw [show Int.gcd x.1 (x.2 : Int) = 1 from x4]
    array_get_dec
    rw [show decide (((1 : Nat) : Int) = 1) = true from by decide]
    have em : (m : Int) * ((P : Int) + 1 - (j : Int)) / ((j : Int) + 1) = ((m * (P + 1 - j) / (j + 1) : Nat) : Int) := by
      have : (P : Int) + 1 - (j : Int) = ((P + 1 - j : Nat) : Int) := by omega
      rw [this, Int.natCast_ediv, Int.natCast_mul, Int.natCast_add]; rfl
    have b1 : ((m : Int) * x.1).natAbs < 2 ^ 4200 := mulB (a := 64) (b := 256) (by rw [Int.natAbs_natCast]; exact o13) x1 (by decide)
    have b2 : t.2 < 2 ^ 4200 := Nat.lt_of_lt_of_le o12 (Nat.pow_le_pow_right (by decide) (by decide))
    clear o11 o12 x1
    replace hk : k [.no, .ow c, .v (.int P), .v (encS (t.1 * x.2 + m * x.1 * t.2, t.2 * x.2)), .v (.int ((m * (P + 1 - j) / (j + 1) : Nat) : Int)), .no, .no, .no, .no, .no, .no, .no, .no, .no, .no, .no, .no, .no] := hk
    simp only [encS, Int.natCast_mul] at hk
    array_get_dec
    refine ⟨mulR (by omega) (by omega), mulL (by omega) (by omega), big_mul b1 (by rw [Int.natAbs_natCast]; exact b2), mulR (by omega) (by omega), by decide, mulL (by omega) (by omega), cdiv (by omega) (by omega), ?_⟩
    rw [em]
    exact hk
  · intro o
    generalize (List.range (P + 1)).foldl (lwS P) ((0, 1), 1) = s at *
    simp only [encS]
    array_get_dec
    rw [decide_eq_true l2]
    array_get_dec
    refine ub 0 (by decide) ?_
    obtain ⟨en0, en1, en2, en20, en60, en60b⟩ := en_ok
    rw [en0]
    simp only [encS]
    array_get_dec
    refine ⟨by decide, use_same rfl rfl rfl (sok_t (by show (2 : Nat) < _; decide) (by array_get_dec; exact ⟨sok_i, sok_i⟩)) ?_⟩
    array_get_dec
    refine use_roll rfl rfl hc (by decide) (by decide) fun r c r0 r1 hc => ?_
    obtain ⟨r, rfl⟩ := Int.eq_ofNat_of_zero_le r0
    have eE : (2 : Int) + 2 * (r : Int) = ((2 + 2 * r : Nat) : Int) := by omega
    obtain ⟨v1, v2, v3, v4, v5⟩ := evFacts (show r < 30 by omega)
    have e60 : 2 + 2 * r ≤ 60 := by omega
    have eb := bt (bgt e60)
    array_get_dec
    refine ⟨mulR (by omega) (by omega), ?_⟩
    rw [eE]
    have e2 : 2 ≤ 2 + 2 * r := by omega
    generalize 2 + 2 * r = e at *
    clear eE r0 r1
    refine ub e e60 ?_
    have ube : ∀ {kf : List D → En} {ρ' : En} {Q : R → En → Prop}, Q (.v (encS (bTab.getD e (0, 1)))) (kf []) → finD CC 7 (fun x _ => Ed x) kf ρ' Q [.int (e : Nat)] := ub e e60
    generalize bTab.getD e (0, 1) = x at *
    obtain ⟨x1, x2, x3, x4⟩ := eb
    simp only [encS]
    array_get_dec
    have er : (List.range ((e : Int) + 2 - 2).toNat).map (fun k : Nat => D.int (2 + (k : Int))) = (List.range e).map fun k : Nat => D.int ((2 + k : Nat) : Int) := by
      rw [show ((e : Int) + 2 - 2).toNat = e by omega]
      apply List.map_congr_left
      intro k _
      congr 1
    refine ⟨⟨by decide, by decide, by omega, by omega⟩, ?_⟩
    rw [er]
    refine comp_map (xs := List.range e) (e := fun k : Nat => D.int ((2 + k : Nat) : Int)) (fun k => if (isP (2 + k) && decide (e % (2 + k - 1) = 0)) = true then some (.int ((2 + k : Nat) : Int)) else none) (by rw [List.length_range]; omega) (fun k hk k' hk' => ?_) ?_
    · rw [List.mem_range] at hk
      have ef := eqF (n := 2 + k) (by omega) (by omega)
      have ee := encP_eokF (2 + k)
      have uf : ∀ {kf : List D → En} {ρ' : En} {Q : R → En → Prop}, Q (.v (.tup ((facT (2 + k)).map encP))) (kf []) → finD CC 22 (fun _ _ => False) kf ρ' Q [.int ((2 + k : Nat) : Int)] := fun q => use_F (f' := oneI) rfl rfl (2 + k) rfl ⟨by omega, by omega⟩ q
      array_get_dec
      refine uf ?_
      generalize (facT (2 + k)).map encP = fl at *
      generalize isP (2 + k) = ip at *
      have e1 : ((2 + k : Nat) : Int) - 1 = ((2 + k - 1 : Nat) : Int) := by omega
      have k1 : 0 < 2 + k - 1 := by omega
      array_get_dec
      refine ⟨by decide, by decide, ee.1, ee.2, ?_⟩
      rw [ef]
      cases ip with
      | false =>
        array_get_dec
        exact hk'
      | true =>
        array_get_dec
        refine ⟨by omega, ?_⟩
        rw [e1, dvd_mod]
        by_cases c0 : e % (2 + k - 1) = 0
        · rw [decide_eq_true c0] at hk' ⊢
          array_get_dec
          exact hk'
        · rw [decide_eq_false c0] at hk' ⊢
          array_get_dec
          exact hk'
    · have efm : (List.range e).filterMap (fun k => if (isP (2 + k) && decide (e % (2 + k - 1) = 0)) = true then some (D.int ((2 + k : Nat) : Int)) else none) = nats (dueN e) := due_fm e _
      rw [efm]
      clear efm er
      have Ll : (dueN e).length ≤ 60 := Nat.le_trans (List.length_filter_le _ _) (by rw [List.length_map, List.length_range]; exact e60)
      have upe := fun {kf : List D → En} {ρ' : En} {Q : R → En → Prop} => up e e60 (kf := kf) (ρ' := ρ') (Q := Q)
      rw [v2] at upe
      generalize dueN e = L at *
      array_get_dec
      refine for_scan evS (fun s => [.no, .ow c, .no, .no, .no, .no, .v (.int e), .v (.int s.1), .v (.int (s.2.1 : Nat)), .v (.lst (nats L)), .v (.int (s.2.2 : Nat)), .no, .no, .no, .no, .no, .no, .no]) evB (xs := L) (e := fun k : Nat => D.int (k : Int)) (s0 := (x.1, x.2, 1)) v1 ?_ ?_
      · rintro ⟨a, b, q⟩ p k o1 o2 hp hk
        obtain ⟨⟨⟨o11, o12⟩, o13⟩, o14⟩ := evB_iff.mp o1
        have p64 := v5 p hp
        unfold evS at hk
        simp only [Int.natCast_mul] at hk
        clear o11 o12 o13 o14 o1 o2
        array_get_dec
        refine ⟨mulR (by omega) (by omega), mulR (by omega) (by omega), mulR (by omega) (by omega), ?_⟩
        exact hk
      · intro o
        obtain ⟨⟨⟨_, _⟩, _⟩, o14⟩ := evB_iff.mp o
        clear o v1 v2
        generalize L.foldl evS (x.1, x.2, 1) = s at *
        array_get_dec
        refine upe ?_
        array_get_dec
        refine use_same rfl rfl rfl (sok_t (by rw [nats_len]; omega) (by intro d hd; obtain ⟨k, _, rfl⟩ := List.mem_map.mp hd; exact sok_i)) ?_
        array_get_dec
        refine ube ?_
        simp only [encS]
        array_get_dec
        rw [decide_eq_true (show (x.2 : Int) = (s.2.2 : Nat) by rw [v3])]
        array_get_dec
        refine ⟨by omega, ?_⟩
        rw [decide_eq_true v4]
        array_get_dec
        clear upe ube v3 v4 v5 Ll o14 e60 e2
        refine use_roll rfl rfl hc (by decide) (by decide) fun r c r0 r1 hc => ?_
        obtain ⟨r, rfl⟩ := Int.eq_ofNat_of_zero_le r0
        have eO : (3 : Int) + 2 * (r : Int) = ((3 + 2 * r : Nat) : Int) := by omega
        have odf := odFacts (show r < 29 by omega)
        have o60 : 3 + 2 * r ≤ 60 := by omega
        array_get_dec
        refine ⟨mulR (by omega) (by omega), ?_⟩
        rw [eO]
        generalize 3 + 2 * r = o at *
        refine ub o o60 ?_
        rw [odf.1]
        simp only [encS]
        array_get_dec
        refine up o o60 ?_
        rw [odf.2]
        array_get_dec
        refine ⟨by decide, by decide, by decide, by decide, ?_⟩
        refine use_same rfl rfl rfl (sok_l (by show (2 : Nat) < _; decide) (by array_get_dec; exact ⟨sok_t (by show (2 : Nat) < _; decide) (by array_get_dec; exact ⟨sok_i, sok_i⟩), sok_t (by show (0 : Nat) < _; decide) (by intro d hd; cases hd)⟩)) ?_
        array_get_dec
        refine use_roll rfl rfl hc (by decide) (by decide) fun p c q0 q1 hc => ?_
        obtain ⟨p, rfl⟩ := Int.eq_ofNat_of_zero_le q0
        array_get_dec
        refine use_roll rfl rfl hc (by decide) (by decide) fun n c n0 n1 hc => ?_
        obtain ⟨n, rfl⟩ := Int.eq_ofNat_of_zero_le n0
        have hp : p ≤ 20 := by omega
        have hn : n ≤ 1000000000 := by omega
        array_get_dec
        refine ⟨⟨by decide, by decide, by omega, by omega⟩, ?_⟩
        rw [rng1 n]
        refine comp_all (xs := List.range n) (e := fun k : Nat => D.int ((1 + k : Nat) : Int)) (fun k => .int (((1 + k) ^ p : Nat) : Int)) (by rw [List.length_range]; omega) (fun k hk k' hk' => ?_) ?_
        · rw [List.mem_range] at hk
          array_get_dec
          refine use_F (f' := fun x : Nat × Nat => [.int x.1, .int x.2]) rfl rfl (1 + k, p) rfl ⟨by show 1 + k < 2 ^ 64; omega, by show p ≤ 64; omega⟩ ?_
          array_get_dec
          exact hk'
        · have en : (List.range n).map (fun k => D.int (((1 + k) ^ p : Nat) : Int)) = nats ((List.range n).map fun k => (1 + k) ^ p) := by
            unfold nats
            rw [List.map_map]; rfl
          rw [en]
          array_get_dec
          refine ⟨_, ints_nats _, ?_⟩
          rw [sum_nats, sum_pow]
          refine use_F (f' := fun x : Nat × Nat => [.int x.1, .int x.2]) rfl rfl (p, n) rfl ⟨hp, hn⟩ ?_
          array_get_dec
          refine use_same rfl rfl rfl sok_i ?_
          array_get_dec
          refine ⟨⟨by decide, by decide, by decide⟩, ?_⟩
          rw [show (10 : Int) ^ Int.toNat 9 = 1000000000 by decide]
          refine use_roll rfl rfl hc (by decide) (by decide) fun f c f0 f1 hc => ?_
          obtain ⟨f, rfl⟩ := Int.eq_ofNat_of_zero_le f0
          have hf : f ≤ 1000000000 := by omega
          array_get_dec
          refine use_F (f' := fun x : Nat × Nat => [.int x.1, .int x.2]) rfl rfl (p, f) rfl ⟨hp, hf⟩ ?_
          array_get_dec
          refine use_F (f' := fun x : Nat × Nat => [.int x.1, .int x.2]) rfl rfl (p, f) rfl ⟨hp, hf⟩ ?_
          array_get_dec
          refine ub 1 (by decide) ?_
          rw [en1]
          array_get_dec
          refine ub 2 (by decide) ?_
          rw [en2]
          array_get_dec
          refine ub 20 (by decide) ?_
          rw [en20]
          array_get_dec
          refine up 60 (by decide) ?_
          rw [en60]
          array_get_dec
          refine ub 60 (by decide) ?_
          simp only [encS]
          array_get_dec
          rw [en60b]
          simp only [encS]
          refine ⟨by decide, by decide, by decide, by decide, by decide, by decide, ?_⟩
          have s2 : ∀ i j : Int, sameOk 11 (.tup [.int i, .int j]) = true := fun i j => sok_t (by show (2 : Nat) < _; decide) (by array_get_dec; exact ⟨sok_i, sok_i⟩)
          refine use_same rfl rfl rfl (sok_l (by show (5 : Nat) < _; decide) (by array_get_dec; exact ⟨s2 _ _, s2 _ _, s2 _ _, sok_t (by show (8 : Nat) < _; decide) (by intro d hd; obtain ⟨k, _, rfl⟩ := List.mem_map.mp hd; exact sok_i), sok_i⟩)) ?_
          array_get_dec
          exact h
end RL
namespace RL
open PySem PySem.Spec PyProof.Rows L2 RK
abbrev LV0 : Nat := 0
abbrev LV1 : Nat := 1
abbrev LV2 : Nat := 2
abbrev LV3 : Nat := 3
abbrev LV4 : Nat := 4
abbrev LV5 : Nat := 5
abbrev LV6 : Nat := 6
abbrev LV7 : Nat := 7
abbrev LV8 : Nat := 8
abbrev LV9 : Nat := 9
abbrev LV10 : Nat := 10
abbrev LV11 : Nat := 11
abbrev LV12 : Nat := 12
abbrev LV13 : Nat := 13
abbrev LV14 : Nat := 14
abbrev LV15 : Nat := 15
abbrev LV16 : Nat := 16
abbrev LV17 : Nat := 17
abbrev LV18 : Nat := 18
abbrev LV19 : Nat := 19
abbrev LV20 : Nat := 20
abbrev LV21 : Nat := 33
abbrev LV22 : Nat := 34
abbrev LV23 : Nat := 35
abbrev LV24 : Nat := 36
def fa (K : PySem.W.Frag) : Nat → Addr := fun k => He.ga K (fnS k)
theorem chain {P : Program} {w : World} {K : PySem.W.Frag} {mg : Str → Option Value} {base : Heap} (c : He.SaysD fas dfs K) (M : Md K mg (fa K) gl fnS nf nf nx) : Up P w K mg base (fa K) CC LV24 24 := by
  have U0 : Up P w K mg base (fa K) CC LV0 0 := Up.zero
  obtain ⟨fd0, F0⟩ := c.def_ 0 (d := d0) rfl
  have U1 : Up P w K mg base (fa K) CC LV1 1 := Up.succ U0 (fnk (fa := fa K) F0 sc0 (by decide) m0 mono0 M (by decide) U0 (F0.bindsN fun _ _ _ _ _ _ us hl => match us, hl with | [_, _, _], _ => rfl) wp_fits) (by decide)
  obtain ⟨fd1, F1⟩ := c.def_ 1 (d := d1) rfl
  have U2 : Up P w K mg base (fa K) CC LV2 2 := Up.succ U1 (fnk (fa := fa K) F1 sc1 (by decide) m1 mono0 M (by decide) U1 (F1.bindsN fun _ _ _ _ _ _ us hl => match us, hl with | [_, _, _], _ => rfl) (wp_need rfl rfl rfl)) (by decide)
  obtain ⟨fd2, F2⟩ := c.def_ 2 (d := d2) rfl
  have U3 : Up P w K mg base (fa K) CC LV3 3 := Up.succ U2 (fnk (fa := fa K) F2 sc2 (by decide) m2 mono0 M (by decide) U2 (F2.bindsN fun _ _ _ _ _ _ us hl => match us, hl with | [_, _], _ => rfl) wp_gcd) (by decide)
  obtain ⟨fd3, F3⟩ := c.def_ 3 (d := d3) rfl
  have U4 : Up P w K mg base (fa K) CC LV4 4 := Up.succ U3 (fnk (fa := fa K) F3 sc3 (by decide) m3 mono0 M (by decide) U3 (F3.bindsN fun _ _ _ _ _ _ us hl => match us, hl with | [_, _], _ => rfl) wp_pow3) (by decide)
  obtain ⟨fd4, F4⟩ := c.def_ 4 (d := d4) rfl
  have U5 : Up P w K mg base (fa K) CC LV5 5 := Up.succ U4 (fnk (fa := fa K) F4 sc4 (by decide) m4 mono0 M (by decide) U4 (F4.bindsN fun _ _ _ _ _ _ us hl => match us, hl with | [_], _ => rfl) wp_ch) (by decide)
  obtain ⟨fd5, F5⟩ := c.def_ 5 (d := d5) rfl
  have U6 : Up P w K mg base (fa K) CC LV6 6 := Up.succ U5 (fnk (fa := fa K) F5 sc5 (by decide) m5 mono0 M (by decide) U5 (F5.bindsN fun _ _ _ _ _ _ us hl => match us, hl with | [_, _], _ => rfl) wp_share) (by decide)
  obtain ⟨fd6, F6⟩ := c.def_ 6 (d := d6) rfl
  have U7 : Up P w K mg base (fa K) CC LV7 7 := Up.succ U6 (fnk (fa := fa K) F6 sc6 (by decide) m6 mono0 M (by decide) U6 (F6.bindsN fun _ _ _ _ _ _ us hl => match us, hl with | [_], _ => rfl) wp_bernin) (by decide)
  obtain ⟨fd7, F7⟩ := c.def_ 7 (d := d7) rfl
  have U8 : Up P w K mg base (fa K) CC LV8 8 := Up.succ U7 (fnk (fa := fa K) F7 sc7 (by decide) m7 mono0 M (by decide) U7 (F7.bindsN fun _ _ _ _ _ _ us hl => match us, hl with | [_], _ => rfl) wp_bern) (by decide)
  obtain ⟨fd8, F8⟩ := c.def_ 8 (d := d8) rfl
  have U9 : Up P w K mg base (fa K) CC LV9 9 := Up.succ U8 (fnk (fa := fa K) F8 sc8 (by decide) m8 mono0 M (by decide) U8 (F8.bindsN fun _ _ _ _ _ _ us hl => match us, hl with | [_], _ => rfl) wp_far) (by decide)
  obtain ⟨fd9, F9⟩ := c.def_ 9 (d := d9) rfl
  have U10 : Up P w K mg base (fa K) CC LV10 10 := Up.succ U9 (fnk (fa := fa K) F9 sc9 (by decide) m9 mono0 M (by decide) U9 (F9.bindsN fun _ _ _ _ _ _ us hl => match us, hl with | [_], _ => rfl) wp_pb) (by decide)
  obtain ⟨fd10, F10⟩ := c.def_ 10 (d := d10) rfl
  have U11 : Up P w K mg base (fa K) CC LV11 11 := Up.succ U10 (fnk (fa := fa K) F10 sc10 (by decide) m10 mono0 M (by decide) U10 (F10.bindsN fun _ _ _ _ _ _ us hl => match us, hl with | [_, _], _ => rfl) wp_sumb) (by decide)
  obtain ⟨fd11, F11⟩ := c.def_ 11 (d := d11) rfl
  have U12 : Up P w K mg base (fa K) CC LV12 12 := Up.succ U11 (fnk (fa := fa K) F11 sc11 (by decide) m11 mono0 M (by decide) U11 (F11.bindsN fun _ _ _ _ _ _ us hl => match us, hl with | [_], _ => rfl) wp_diff) (by decide)
  obtain ⟨fd12, F12⟩ := c.def_ 12 (d := d12) rfl
  have U13 : Up P w K mg base (fa K) CC LV13 13 := Up.succ U12 (fnk (fa := fa K) F12 sc12 (by decide) m12 mono0 M (by decide) U12 (F12.bindsN fun _ _ _ _ _ _ us hl => match us, hl with | [_], _ => rfl) wp_leads) (by decide)
  obtain ⟨fd13, F13⟩ := c.def_ 13 (d := d13) rfl
  have U14 : Up P w K mg base (fa K) CC LV14 14 := Up.succ U13 (fnk (fa := fa K) F13 sc13 (by decide) m13 mono0 M (by decide) U13 (F13.bindsN fun _ _ _ _ _ _ us hl => match us, hl with | [_, _], _ => rfl) wp_choose) (by decide)
  obtain ⟨fd14, F14⟩ := c.def_ 14 (d := d14) rfl
  have U15 : Up P w K mg base (fa K) CC LV15 15 := Up.succ U14 (fnk (fa := fa K) F14 sc14 (by decide) m14 mono0 M (by decide) U14 (F14.bindsN fun _ _ _ _ _ _ us hl => match us, hl with | [_, _], _ => rfl) wp_val) (by decide)
  obtain ⟨fd15, F15⟩ := c.def_ 15 (d := d15) rfl
  have U16 : Up P w K mg base (fa K) CC LV16 16 := Up.succ U15 (fnk (fa := fa K) F15 sc15 (by decide) m15 mono0 M (by decide) U15 (F15.bindsN fun _ _ _ _ _ _ us hl => match us, hl with | [_, _], _ => rfl) wp_pow15) (by decide)
  obtain ⟨fd16, F16⟩ := c.def_ 16 (d := d16) rfl
  have U17 : Up P w K mg base (fa K) CC LV17 17 := Up.succ U16 (fnk (fa := fa K) F16 sc16 (by decide) m16 mono0 M (by decide) U16 (F16.bindsN fun _ _ _ _ _ _ us hl => match us, hl with | [_], _ => rfl) wp_pl) (by decide)
  obtain ⟨fd17, F17⟩ := c.def_ 17 (d := d17) rfl
  have U18 : Up P w K mg base (fa K) CC LV18 18 := Up.succ U17 (fnk (fa := fa K) F17 sc17 (by decide) m17 mono0 M (by decide) U17 (F17.bindsN fun _ _ _ _ _ _ us hl => match us, hl with | [_, _], _ => rfl) wp_psum) (by decide)
  obtain ⟨fd18, F18⟩ := c.def_ 18 (d := d18) rfl
  have U19 : Up P w K mg base (fa K) CC LV19 19 := Up.succ U18 (fnk (fa := fa K) F18 sc18 (by decide) m18 mono0 M (by decide) U18 (F18.bindsN fun _ _ _ _ _ _ us hl => match us, hl with | [_], _ => rfl) (wp_cup (by decide) (by decide) (by decide) (by decide))) (by decide)
  obtain ⟨fd19, F19⟩ := c.def_ 19 (d := d19) rfl
  have U20 : Up P w K mg base (fa K) CC LV20 20 := Up.succ U19 (fnk (fa := fa K) F19 sc19 (by decide) m19 mono0 M (by decide) U19 (F19.bindsN fun _ _ _ _ _ _ us hl => match us, hl with | [_, _], _ => rfl) (wp_roll (by decide) (by decide) (by decide) (by decide))) (by decide)
  obtain ⟨fd20, F20⟩ := c.def_ 20 (d := d20) rfl
  have U21 : Up P w K mg base (fa K) CC LV21 21 := Up.succ U20 (fnk_rec (S := recS spSame) (fa := fa K) F20 sc20 (by decide) m20 mono0 (recS_mono (fun _ => spSame_mono)) M (by decide) U20 (F20.bindsN fun _ _ _ _ _ _ us hl => match us, hl with | [_, _], _ => rfl) recS_0 (fun m => wp_same (fun m' e => by subst e; exact Cset_sp) rfl rfl) 13) (by decide)
  obtain ⟨fd21, F21⟩ := c.def_ 21 (d := d21) rfl
  have U22 : Up P w K mg base (fa K) CC LV22 22 := Up.succ U21 (fnk (fa := fa K) F21 sc21 (by decide) m21 mono0 M (by decide) U21 (F21.bindsN fun _ _ _ _ _ _ us hl => match us, hl with | [_, _], _ => rfl) wp_lgcd) (by decide)
  obtain ⟨fd22, F22⟩ := c.def_ 22 (d := d22) rfl
  have U23 : Up P w K mg base (fa K) CC LV23 23 := Up.succ U22 (fnk (fa := fa K) F22 sc22 (by decide) m22 mono0 M (by decide) U22 (F22.bindsN fun _ _ _ _ _ _ us hl => match us, hl with | [_], _ => rfl) wp_lfac) (by decide)
  obtain ⟨fd23, F23⟩ := c.def_ 23 (d := d23) rfl
  have U24 : Up P w K mg base (fa K) CC LV24 24 := Up.succ U23 (fnk (fa := fa K) F23 sc23 (by decide) m23 mono0 M (by decide) U23 (F23.bindsN fun _ _ _ _ _ _ us hl => match us, hl with | [_, _], _ => rfl) wp_pow23) (by decide)
  exact U24
theorem kept {K : PySem.W.Frag} (c : He.SaysD fas dfs K) : ∀ f, f < nf → PySem.W.keepIn K (.ref (He.ga K (fnS f))) = true := by
  intro f hf
  match f, hf with
  | 0, _ => exact (c.def_ 0 (d := d0) rfl).choose_spec.kp
  | 1, _ => exact (c.def_ 1 (d := d1) rfl).choose_spec.kp
  | 2, _ => exact (c.def_ 2 (d := d2) rfl).choose_spec.kp
  | 3, _ => exact (c.def_ 3 (d := d3) rfl).choose_spec.kp
  | 4, _ => exact (c.def_ 4 (d := d4) rfl).choose_spec.kp
  | 5, _ => exact (c.def_ 5 (d := d5) rfl).choose_spec.kp
  | 6, _ => exact (c.def_ 6 (d := d6) rfl).choose_spec.kp
  | 7, _ => exact (c.def_ 7 (d := d7) rfl).choose_spec.kp
  | 8, _ => exact (c.def_ 8 (d := d8) rfl).choose_spec.kp
  | 9, _ => exact (c.def_ 9 (d := d9) rfl).choose_spec.kp
  | 10, _ => exact (c.def_ 10 (d := d10) rfl).choose_spec.kp
  | 11, _ => exact (c.def_ 11 (d := d11) rfl).choose_spec.kp
  | 12, _ => exact (c.def_ 12 (d := d12) rfl).choose_spec.kp
  | 13, _ => exact (c.def_ 13 (d := d13) rfl).choose_spec.kp
  | 14, _ => exact (c.def_ 14 (d := d14) rfl).choose_spec.kp
  | 15, _ => exact (c.def_ 15 (d := d15) rfl).choose_spec.kp
  | 16, _ => exact (c.def_ 16 (d := d16) rfl).choose_spec.kp
  | 17, _ => exact (c.def_ 17 (d := d17) rfl).choose_spec.kp
  | 18, _ => exact (c.def_ 18 (d := d18) rfl).choose_spec.kp
  | 19, _ => exact (c.def_ 19 (d := d19) rfl).choose_spec.kp
  | 20, _ => exact (c.def_ 20 (d := d20) rfl).choose_spec.kp
  | 21, _ => exact (c.def_ 21 (d := d21) rfl).choose_spec.kp
  | 22, _ => exact (c.def_ 22 (d := d22) rfl).choose_spec.kp
  | 23, _ => exact (c.def_ 23 (d := d23) rfl).choose_spec.kp
  | 24, _ => exact (c.def_ 24 (d := d24) rfl).choose_spec.kp
  | n + 25, h => exact absurd h (by show ¬ (n + 25 < 25); omega)
theorem facts {P : Program} {w : World} {K : PySem.W.Frag} {h : Heap} {mg : Str → Option Value} {f : Addr} (X : K.In h) (G : h.Ns mainGlobals mg) (hfa : mg ("law" : Str) = some (.ref f)) (c : He.SaysD fas dfs K) :
    ∃ fd : FuncData, (∀ (s : Shared) (v : Value), BindsTo s fd ⟨[v], []⟩ [("script", v)]) ∧ ∀ base : Heap, K.In base → base.Ns mainGlobals mg → FnOk P w K mg base CX0 (LV24 + 1) f fd ["script"] (fun vs H Q E => lSp K (fa K) false false spLaw vs H Q fun _ _ _ => False) := by
  obtain ⟨fd, F⟩ := c.def_ 24 (d := d24) rfl
  have M : Md K mg (fa K) gl fnS nf nf nx := md_of c X G (by decide) (kept c)
  have e := hfa.symm.trans (M.at_ 24 (by decide)).1
  cases e
  have b := FunD.bindsA (ps := ["script"]) F fun _ _ _ _ _ _ us hl => match us, hl with | [_], _ => rfl
  exact ⟨fd, fun s v => b s [v] rfl, fun base _ _ => noX (RK.fn_ok (C := CC) F sc24 (by decide) m24 mono0 (M.le (by decide)) (chain c M) wp_law)⟩
end RL
open PySem PySem.W PySem.Calls PyProof.Rows
theorem PySem.Challenge.cw_reckonhall_k71_whole_bernoullis_numbers_holds : PySem.Challenge.rw_reckonhall_k71_whole_bernoullis_numbers.Holds := by
  w_on; o_law
  refine HandSHeadRun.head_any (r := OpenLaw.row PySem.Challenge.rw_reckonhall_k71_whole_bernoullis_numbers) (q := view (OpenLaw.row PySem.Challenge.rw_reckonhall_k71_whole_bernoullis_numbers).prog [RL.lawAt]) (H := RL.hk) (ob := RL.ob) (M := 4000) (loose := RL.loose0) (d := HandSHeadRun.topDef (OpenLaw.row PySem.Challenge.rw_reckonhall_k71_whole_bernoullis_numbers).prog RL.lawAt) (kwd := []) RL.ob_eq
    (by kernel_rfl) (fun s => by kernel_rfl) RL.run (by kernel_rfl) (by kernel_rfl) (by kernel_rfl) (by rfl) (by first | assumption | decide +kernel) (by decide +kernel) ⟨rfl, rfl, rfl, rfl, rfl, by decide +kernel⟩ ?hw ?hc
  case hw => w_witness2
  case hc =>
    refine L2.walk_ofE (l := PySem.Challenge.rw_reckonhall_k71_whole_bernoullis_numbers) (n := 63) (k := RL.LV24 + 1) (x := "script") (CX := L2.CX0) rfl (by decide) (by kernel_rfl) ⟨rfl, by decide, by decide⟩ ?F (fun _ _ _ _ z => z)
    intro w mg fa h Y G hmg0
    obtain ⟨K, KX, c⟩ := Y
    have hmg : mg ("law" : PySem.Str) = some (.ref fa) := by
      have e : (HandSHeadRun.topDef (OpenLaw.row PySem.Challenge.rw_reckonhall_k71_whole_bernoullis_numbers).prog RL.lawAt).name = ("law" : PySem.Str) := by kernel_rfl
      rw [← e]
      exact hmg0
    obtain ⟨fd, hb, hF⟩ := RL.facts (P := (PySem.Challenge.rw_reckonhall_k71_whole_bernoullis_numbers).prog) (w := w) KX G hmg c
    exact ⟨K, fd, fun vs H Q E => RK.lSp K (RL.fa K) false false RK.spLaw vs H Q fun _ _ _ => False, KX, hb, fun H a ns hl _ hS => RK.law_sp hS ⟨ns, rfl, hl, rfl⟩, hF⟩
