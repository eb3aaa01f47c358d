import PyProof.Rows.All
import Wide.All
import OpenK.AllK
import Wide.FinOn
import HandS.ForMost
import HandS.Defaults
import HandS.WordsExc
import HandS.Walk
import HandS.Wide
import HandS.Gcd
import HandS.TupAny
import HandS.TupMul
import HandS.TupLe
import HandS.Zip
import HandS.Rev
import HandS.RevRange
import HandS.Flow
import HandS.Style
import HandS.Conv
import HandS.IsInst
import HandS.SortInts
import PyProof.ReprRoads
import HandS.HeadHook2
import HandS.Head0
import HandS.Head1
import HandS.Head2
import HandS.Head3
import HandS.HeadEnd
import HandS.HeadHook1
import PySem.Challenge.RW_pushedback_k48_whole_digits_of_pushed_ro
set_option Elab.async false
set_option linter.all false
set_option maxRecDepth 100000
set_option maxHeartbeats 0

/-! part DLa -/
/-! The data layer: values as plain data, readings without a heap. -/
namespace DL
open PySem PySem.Spec PyProof.Rows L2

/-- plain data -/
inductive D where
  | non | bl (b : Bool) | int (i : Int) | str (x : Str) | lst (ds : List D) | tup (ds : List D) | scr (ns : List Int) | hnd (v : V)

mutual
/-- the value stands for the data, by what the frozen heap holds -/
inductive Rp (K : PySem.W.Frag) (H : Hp) : V → D → Prop
  | non : Rp K H .non .non
  | bl (b : Bool) : Rp K H (.bl b) (.bl b)
  | int (i : Int) : Rp K H (.int i) (.int i)
  | str (x : Str) : Rp K H (.str x) (.str x)
  | lst {a : Addr} {xs : List V} {ds : List D} : H a = some (.lst xs) → Rps K H xs ds → Rp K H (.ref a) (.lst ds)
  | tup {a : Addr} {xs : List V} {ds : List D} : SqT K H a xs → Rps K H xs ds → Rp K H (.ref a) (.tup ds)
  | scr {a : Addr} {ns : List Int} : SqL K H a (ns.map V.int) → Rp K H (.ref a) (.scr ns)
  | hnd (v : V) : Rp K H v (.hnd v)
inductive Rps (K : PySem.W.Frag) (H : Hp) : List V → List D → Prop
  | nil : Rps K H [] []
  | cons {v : V} {vs : List V} {d : D} {ds : List D} : Rp K H v d → Rps K H vs ds → Rps K H (v :: vs) (d :: ds)
end

theorem Same.seqT {K : PySem.W.Frag} {H H' : Hp} {a : Addr} {xs : List V} (e : Same H H') (h : SqT K H a xs) : SqT K H' a xs := by
  rcases h with (h | ⟨o, h⟩) | h
  · exact .inl (.inl (e _ _ h))
  · exact .inl (.inr ⟨o, e _ _ h⟩)
  · exact .inr h

mutual
theorem Rp.mono {K : PySem.W.Frag} {H H' : Hp} (e : Same H H') : ∀ {v : V} (d : D), Rp K H v d → Rp K H' v d
  | _, .non, .non => .non
  | _, .bl _, .bl b => .bl b
  | _, .int _, .int i => .int i
  | _, .str _, .str x => .str x
  | _, .lst ds, .lst h r => .lst (e _ _ h) (Rps.mono e ds r)
  | _, .tup ds, .tup h r => .tup (Same.seqT e h) (Rps.mono e ds r)
  | _, .scr _, .scr h => .scr (e.seq h)
  | _, .hnd _, .hnd v => .hnd v
theorem Rps.mono {K : PySem.W.Frag} {H H' : Hp} (e : Same H H') : ∀ {vs : List V} (ds : List D), Rps K H vs ds → Rps K H' vs ds
  | _, [], .nil => .nil
  | _, d :: ds, .cons h r => .cons (Rp.mono e d h) (Rps.mono e ds r)
end
section
variable {K : PySem.W.Frag} {H : Hp}
theorem Rps.length : ∀ {vs : List V} {ds : List D}, Rps K H vs ds → vs.length = ds.length
  | _, _, .nil => rfl
  | _, _, .cons _ r => congrArg Nat.succ r.length
theorem Rps.get : ∀ {vs : List V} {ds : List D} {i : Nat} {d : D}, Rps K H vs ds → ds[i]? = some d → ∃ v, vs[i]? = some v ∧ Rp K H v d
  | _, _, _, _, .nil, e => by simp at e
  | _, _, 0, _, .cons h _, e => by
    simp only [List.getElem?_cons_zero, Option.some.injEq] at e
    subst e
    exact ⟨_, rfl, h⟩
  | _, _, i + 1, _, .cons _ r, e => by
    rw [List.getElem?_cons_succ] at e
    obtain ⟨v, h1, h2⟩ := r.get e
    exact ⟨v, by rw [List.getElem?_cons_succ]; exact h1, h2⟩
theorem Rps.getV : ∀ {vs : List V} {ds : List D} {i : Nat} {v : V}, Rps K H vs ds → vs[i]? = some v → ∃ d, ds[i]? = some d ∧ Rp K H v d
  | _, _, _, _, .nil, e => by simp at e
  | _, _, 0, _, .cons h _, e => by
    simp only [List.getElem?_cons_zero, Option.some.injEq] at e
    subst e
    exact ⟨_, rfl, h⟩
  | _, _, i + 1, _, .cons _ r, e => by
    rw [List.getElem?_cons_succ] at e
    obtain ⟨v, h1, h2⟩ := r.getV e
    exact ⟨v, by rw [List.getElem?_cons_succ]; exact h1, h2⟩
theorem Rps.append : ∀ {vs ws : List V} {ds es : List D}, Rps K H vs ds → Rps K H ws es → Rps K H (vs ++ ws) (ds ++ es)
  | _, _, _, _, .nil, s => s
  | _, _, _, _, .cons h r, s => .cons h (r.append s)
theorem Rps.drop : ∀ {vs : List V} {ds : List D} (n : Nat), Rps K H vs ds → Rps K H (vs.drop n) (ds.drop n)
  | _, _, 0, r => r
  | _, _, _ + 1, .nil => .nil
  | _, _, n + 1, .cons _ r => r.drop n
theorem Rps.take : ∀ {vs : List V} {ds : List D} (n : Nat), Rps K H vs ds → Rps K H (vs.take n) (ds.take n)
  | _, _, 0, _ => .nil
  | _, _, _ + 1, .nil => .nil
  | _, _, n + 1, .cons h r => .cons h (r.take n)
theorem Rps.set {v : V} {d : D} (h : Rp K H v d) : ∀ {vs : List V} {ds : List D} (i : Nat), Rps K H vs ds → Rps K H (vs.set i v) (ds.set i d)
  | _, _, _, .nil => .nil
  | _, _, 0, .cons _ r => .cons h r
  | _, _, i + 1, .cons q r => .cons q (Rps.set h i r)
theorem Rps.one {v : V} {d : D} (h : Rp K H v d) : Rps K H [v] [d] := .cons h .nil
theorem Rps.reverse : ∀ {vs : List V} {ds : List D}, Rps K H vs ds → Rps K H vs.reverse ds.reverse
  | _, _, .nil => .nil
  | _, _, .cons h r => by
    rw [List.reverse_cons, List.reverse_cons]
    exact r.reverse.append (.one h)
theorem Rps.ints : ∀ (ns : List Int), Rps K H (ns.map V.int) (ns.map D.int)
  | [] => .nil
  | n :: r => .cons (.int n) (Rps.ints r)
theorem Rps.nils {vs : List V} (h : Rps K H vs []) : vs = [] := by
  cases h
  rfl
/-- data that is all ints -/
theorem Rps.of_ints : ∀ {vs : List V} {ns : List Int}, Rps K H vs (ns.map D.int) → vs = ns.map V.int
  | _, [], h => by cases h; rfl
  | _, n :: r, h => by
    cases h with
    | cons h1 h2 =>
      cases h1
      rw [Rps.of_ints (ns := r) h2]
      rfl
end

/-- a thing that calls change: by its content -/
inductive MO where
  | lst (ds : List D)
abbrev M := Addr → Option MO
def MOk (K : PySem.W.Frag) (HF H : Hp) (a : Addr) : MO → Prop
  | .lst ds => ∃ vs, H a = some (.lst vs) ∧ Rps K HF vs ds
def mset (m : M) (a : Addr) (o : MO) : M := fun b => if b = a then some o else m b
@[simp] theorem mset_same {m : M} {a : Addr} {o : MO} : mset m a o a = some o := by unfold mset; rw [if_pos rfl]
theorem mset_ne {m : M} {a b : Addr} {o : MO} (h : b ≠ a) : mset m a o b = m b := by unfold mset; rw [if_neg h]

/-- a slot: nothing, data, or a list that the def alone holds -/
inductive Sl where
  | no | val (d : D) | own (ds : List D)
structure S where
  m : M
  sl : List Sl

/-- a slot against a value -/
def SlR (K : PySem.W.Frag) (g : Hp) (m : M) (HF : Hp) (H : Hp) (o : Option V) : Sl → Prop
  | .no => True
  | .val d => ∃ v, o = some v ∧ Rp K HF v d
  | .own ds => ∃ a vs, o = some (.ref a) ∧ H a = some (.lst vs) ∧ Rps K HF vs ds ∧ HF a = none ∧ m a = none ∧ g a = none

/-- the state by data: g what others hold and nobody here touches -/
structure Rel (K : PySem.W.Frag) (g : Hp) (s : S) (HF : Hp) (σ : L2.St) (H : Hp) : Prop where
  same : Same HF H
  out : ∀ b o, g b = some o → H b = some o ∧ HF b = none ∧ s.m b = none
  mok : ∀ b o, s.m b = some o → HF b = none ∧ MOk K HF H b o
  len : σ.length = s.sl.length
  slots : ∀ (i : Nat) x, s.sl[i]? = some x → ∃ o, σ[i]? = some o ∧ SlR K g s.m HF H o x
  apart : ∀ (i j : Nat) (di dj : List D) (a : Addr), s.sl[i]? = some (.own di) → s.sl[j]? = some (.own dj) → σ[i]? = some (some (.ref a)) → σ[j]? = some (some (.ref a)) → i = j

theorem SlR.mono {K : PySem.W.Frag} {g : Hp} {m m' : M} {HF HF' H H' : Hp} {o : Option V} {x : Sl} (eF : Same HF HF') (h : SlR K g m HF H o x)
    (k : ∀ a, HF a = none → m a = none → g a = none → ∀ vs, H a = some (.lst vs) → o = some (.ref a) → (∃ ds, x = .own ds) → H' a = some (.lst vs) ∧ HF' a = none ∧ m' a = none) : SlR K g m' HF' H' o x := by
  cases x with
  | no => trivial
  | val d =>
    obtain ⟨v, e, r⟩ := h
    exact ⟨v, e, r.mono eF⟩
  | own ds =>
    obtain ⟨a, vs, e, h1, r, h2, h3, h4⟩ := h
    obtain ⟨q1, q2, q3⟩ := k a h2 h3 h4 vs h1 e ⟨ds, rfl⟩
    exact ⟨a, vs, e, q1, r.mono eF, q2, q3, h4⟩
theorem MOk.mono {K : PySem.W.Frag} {HF HF' H H' : Hp} {a : Addr} {o : MO} (eF : Same HF HF') (h : MOk K HF H a o) (k : ∀ u, H a = some u → H' a = some u) : MOk K HF' H' a o := by
  cases o with
  | lst ds =>
    obtain ⟨vs, h1, r⟩ := h
    exact ⟨vs, k _ h1, r.mono eF⟩
theorem MOk.there {K : PySem.W.Frag} {HF H : Hp} {a : Addr} {o : MO} (h : MOk K HF H a o) : H a ≠ none := by
  cases o with
  | lst ds =>
    obtain ⟨vs, h1, r⟩ := h
    rw [h1]
    exact fun z => nomatch z

section
variable {K : PySem.W.Frag} {g : Hp} {s : S} {HF H : Hp} {σ : L2.St}

theorem same_upd {H : Hp} {p : Addr} {o : HO} (h : H p = none) : Same H (upd H p o) := fun b u e => by
  rw [upd_ne (ne_of_none e h)]
  exact e
theorem Rel.freshF (R : Rel K g s HF σ H) {p : Addr} (h : H p = none) : HF p = none := R.same.free h
theorem Rel.freshM (R : Rel K g s HF σ H) {p : Addr} (h : H p = none) : s.m p = none := by
  cases e : s.m p with
  | none => rfl
  | some o => exact absurd h (R.mok p o e).2.there
theorem Rel.freshG (R : Rel K g s HF σ H) {p : Addr} (h : H p = none) : g p = none := by
  cases e : g p with
  | none => rfl
  | some o =>
    have z := (R.out p o e).1
    rw [h] at z
    cases z

/-- a new object, frozen -/
theorem Rel.alloc (R : Rel K g s HF σ H) {p : Addr} (hp : H p = none) (o : HO) : Rel K g s (upd HF p o) σ (upd H p o) where
  same := fun b u e => by
    by_cases hb : b = p
    · subst hb
      rw [upd_same] at e ⊢
      exact e
    · rw [upd_ne hb] at e ⊢
      exact R.same b u e
  out := fun b u e => by
    have hb : b ≠ p := ne_of_none e (R.freshG hp)
    rw [upd_ne hb, upd_ne hb]
    exact R.out b u e
  mok := fun b u e => by
    have hb : b ≠ p := fun z => by
      subst z
      rw [R.freshM hp] at e
      cases e
    obtain ⟨h1, h2⟩ := R.mok b u e
    exact ⟨by rw [upd_ne hb]; exact h1, h2.mono (same_upd (R.freshF hp)) fun u e => by rw [upd_ne hb]; exact e⟩
  len := R.len
  slots := fun i x e => by
    obtain ⟨ov, h1, h2⟩ := R.slots i x e
    refine ⟨ov, h1, h2.mono (same_upd (R.freshF hp)) fun a q1 q2 q3 vs q4 _ _ => ?_⟩
    have hb : a ≠ p := ne_of_none q4 hp
    rw [upd_ne hb, upd_ne hb]
    exact ⟨q4, q1, q2⟩
  apart := R.apart
/-- a new object that others hold -/
theorem Rel.guard (R : Rel K g s HF σ H) {p : Addr} (hp : H p = none) (o : HO) : Rel K (upd g p o) s HF σ (upd H p o) where
  same := fun b u e => by
    have hb : b ≠ p := ne_of_none e (R.freshF hp)
    rw [upd_ne hb]
    exact R.same b u e
  out := fun b u e => by
    by_cases hb : b = p
    · subst hb
      rw [upd_same] at e ⊢
      exact ⟨e, R.freshF hp, R.freshM hp⟩
    · rw [upd_ne hb] at e ⊢
      exact R.out b u e
  mok := fun b u e => by
    have hb : b ≠ p := fun z => by
      subst z
      rw [R.freshM hp] at e
      cases e
    obtain ⟨h1, h2⟩ := R.mok b u e
    exact ⟨h1, h2.mono (Same.refl _) fun u e => by rw [upd_ne hb]; exact e⟩
  len := R.len
  slots := fun i x e => by
    obtain ⟨ov, h1, h2⟩ := R.slots i x e
    refine ⟨ov, h1, ?_⟩
    cases x with
    | no => trivial
    | val d => exact h2
    | own ds =>
      obtain ⟨a, vs, e1, q4, r, q1, q2, q3⟩ := h2
      have hb : a ≠ p := ne_of_none q4 hp
      exact ⟨a, vs, e1, by rw [upd_ne hb]; exact q4, r, q1, q2, by rw [upd_ne hb]; exact q3⟩
  apart := R.apart
/-- what others hold, less of it -/
theorem Rel.unguard {g' : Hp} (R : Rel K g' s HF σ H) (h : Same g g') : Rel K g s HF σ H where
  same := R.same
  out := fun b u e => R.out b u (h b u e)
  mok := R.mok
  len := R.len
  slots := fun i x e => by
    obtain ⟨ov, h1, h2⟩ := R.slots i x e
    refine ⟨ov, h1, ?_⟩
    cases x with
    | no => trivial
    | val d => exact h2
    | own ds =>
      obtain ⟨a, vs, e1, q4, r, q1, q2, q3⟩ := h2
      exact ⟨a, vs, e1, q4, r, q1, q2, h.free q3⟩
  apart := R.apart

/-- a slot gets data -/
theorem Rel.put (R : Rel K g s HF σ H) (i : Nat) {v : V} {d : D} (r : Rp K HF v d) : Rel K g { s with sl := s.sl.set i (.val d) } HF (σ.set i (some v)) H where
  same := R.same
  out := R.out
  mok := R.mok
  len := by
    show (σ.set i (some v)).length = (s.sl.set i (.val d)).length
    rw [List.length_set, List.length_set]
    exact R.len
  slots := fun j x e => by
    have e : (s.sl.set i (.val d))[j]? = some x := e
    by_cases hj : i = j
    · subst hj
      have hl : i < s.sl.length := by
        have z := (List.getElem?_eq_some_iff.mp e).1
        rwa [List.length_set] at z
      rw [List.getElem?_set_self hl] at e
      cases e
      exact ⟨_, List.getElem?_set_self (by rw [R.len]; exact hl), v, rfl, r⟩
    · rw [List.getElem?_set_ne hj] at e
      rw [List.getElem?_set_ne hj]
      exact R.slots j x e
  apart := fun j l dj dl a h1 h2 h3 h4 => by
    have h1 : (s.sl.set i (.val d))[j]? = some (.own dj) := h1
    have h2 : (s.sl.set i (.val d))[l]? = some (.own dl) := h2
    have nj : i ≠ j := fun z => by
      subst z
      have hl : i < s.sl.length := by
        have z := (List.getElem?_eq_some_iff.mp h1).1
        rwa [List.length_set] at z
      rw [List.getElem?_set_self hl] at h1
      cases h1
    have nl : i ≠ l := fun z => by
      subst z
      have hl : i < s.sl.length := by
        have z := (List.getElem?_eq_some_iff.mp h2).1
        rwa [List.length_set] at z
      rw [List.getElem?_set_self hl] at h2
      cases h2
    rw [List.getElem?_set_ne nj] at h1 h3
    rw [List.getElem?_set_ne nl] at h2 h4
    exact R.apart j l dj dl a h1 h2 h3 h4
/-- a slot gets a new list of its own -/
theorem Rel.putOwn (R : Rel K g s HF σ H) (i : Nat) {p : Addr} (hp : H p = none) {vs : List V} {ds : List D} (r : Rps K HF vs ds) :
    Rel K g { s with sl := s.sl.set i (.own ds) } HF (σ.set i (some (.ref p))) (upd H p (.lst vs)) where
  same := fun b u e => by
    have hb : b ≠ p := ne_of_none e (R.freshF hp)
    rw [upd_ne hb]
    exact R.same b u e
  out := fun b u e => by
    have hb : b ≠ p := ne_of_none e (R.freshG hp)
    rw [upd_ne hb]
    exact R.out b u e
  mok := fun b u e => by
    have hb : b ≠ p := fun z => by
      subst z
      have e : s.m b = some u := e
      rw [R.freshM hp] at e
      cases e
    obtain ⟨h1, h2⟩ := R.mok b u e
    exact ⟨h1, h2.mono (Same.refl _) fun u e => by rw [upd_ne hb]; exact e⟩
  len := by
    show (σ.set i (some (.ref p))).length = (s.sl.set i (.own ds)).length
    rw [List.length_set, List.length_set]
    exact R.len
  slots := fun j x e => by
    have e : (s.sl.set i (.own ds))[j]? = some x := e
    by_cases hj : i = j
    · subst hj
      have hl : i < s.sl.length := by
        have z := (List.getElem?_eq_some_iff.mp e).1
        rwa [List.length_set] at z
      rw [List.getElem?_set_self hl] at e
      cases e
      exact ⟨_, List.getElem?_set_self (by rw [R.len]; exact hl), p, vs, rfl, upd_same, r, R.freshF hp, R.freshM hp, R.freshG hp⟩
    · rw [List.getElem?_set_ne hj] at e
      rw [List.getElem?_set_ne hj]
      obtain ⟨ov, h1, h2⟩ := R.slots j x e
      refine ⟨ov, h1, h2.mono (Same.refl _) fun a q1 q2 q3 vs q4 _ _ => ?_⟩
      rw [upd_ne (ne_of_none q4 hp)]
      exact ⟨q4, q1, q2⟩
  apart := fun j l dj dl a h1 h2 h3 h4 => by
    have h1 : (s.sl.set i (.own ds))[j]? = some (.own dj) := h1
    have h2 : (s.sl.set i (.own ds))[l]? = some (.own dl) := h2
    have key : ∀ (n : Nat) (dn : List D), i ≠ n → s.sl[n]? = some (.own dn) → σ[n]? = some (some (.ref a)) → a ≠ p := fun n dn hn e1 e2 => by
      obtain ⟨ov, q1, a', vs', q2, q3, _⟩ := R.slots n _ e1
      rw [e2] at q1
      cases q1
      cases q2
      exact ne_of_none q3 hp
    by_cases hj : i = j
    · by_cases hl : i = l
      · exact hj.symm.trans hl
      · exfalso
        subst hj
        rw [List.getElem?_set_ne hl] at h2 h4
        have hll : i < σ.length := by
          have z := (List.getElem?_eq_some_iff.mp h3).1
          rwa [List.length_set] at z
        rw [List.getElem?_set_self hll] at h3
        cases h3
        exact key l dl hl h2 h4 rfl
    · rw [List.getElem?_set_ne hj] at h1 h3
      by_cases hl : i = l
      · exfalso
        subst hl
        have hll : i < σ.length := by
          have z := (List.getElem?_eq_some_iff.mp h4).1
          rwa [List.length_set] at z
        rw [List.getElem?_set_self hll] at h4
        cases h4
        exact key j dj hj h1 h3 rfl
      · rw [List.getElem?_set_ne hl] at h2 h4
        exact R.apart j l dj dl a h1 h2 h3 h4
theorem Rel.getOwn (R : Rel K g s HF σ H) {i : Nat} {ds : List D} (e : s.sl[i]? = some (.own ds)) : ∃ a vs, σ[i]? = some (some (.ref a)) ∧ H a = some (.lst vs) ∧ Rps K HF vs ds ∧ HF a = none ∧ s.m a = none ∧ g a = none := by
  obtain ⟨ov, h1, a, vs, h2, h3⟩ := R.slots i _ e
  subst h2
  exact ⟨a, vs, h1, h3⟩
theorem Rel.getVal (R : Rel K g s HF σ H) {i : Nat} {d : D} (e : s.sl[i]? = some (.val d)) : ∃ v, σ[i]? = some (some v) ∧ Rp K HF v d := by
  obtain ⟨ov, h1, v, h2, h3⟩ := R.slots i _ e
  subst h2
  exact ⟨v, h1, h3⟩
/-- the list at slot i changes its content -/
theorem Rel.write (R : Rel K g s HF σ H) {i : Nat} {ds ds' : List D} {a : Addr} {vs' : List V} (e : s.sl[i]? = some (.own ds)) (ha : σ[i]? = some (some (.ref a))) (r : Rps K HF vs' ds') :
    Rel K g { s with sl := s.sl.set i (.own ds') } HF σ (upd H a (.lst vs')) := by
  obtain ⟨a', vs, h1, h2, h3, h4, h5, h6⟩ := R.getOwn e
  rw [ha] at h1
  cases h1
  have hi : i < s.sl.length := (List.getElem?_eq_some_iff.mp e).1
  have back : ∀ (j : Nat) (dj : List D), (s.sl.set i (.own ds'))[j]? = some (.own dj) → ∃ dj', s.sl[j]? = some (.own dj') := fun j dj q => by
    by_cases hj : i = j
    · subst hj
      exact ⟨ds, e⟩
    · rw [List.getElem?_set_ne hj] at q
      exact ⟨dj, q⟩
  refine ⟨fun b u q => ?_, fun b u q => ?_, fun b u q => ?_, ?_, fun j x q => ?_, fun j l dj dl c q1 q2 q3 q4 => ?_⟩
  · have hb : b ≠ a := ne_of_none q h4
    rw [upd_ne hb]
    exact R.same b u q
  · have hb : b ≠ a := ne_of_none q h6
    rw [upd_ne hb]
    exact R.out b u q
  · have hb : b ≠ a := fun z => by
      subst z
      have q : s.m b = some u := q
      rw [h5] at q
      cases q
    obtain ⟨z1, z2⟩ := R.mok b u q
    exact ⟨z1, z2.mono (Same.refl _) fun u e => by rw [upd_ne hb]; exact e⟩
  · show σ.length = (s.sl.set i (.own ds')).length
    rw [List.length_set]
    exact R.len
  · have q : (s.sl.set i (.own ds'))[j]? = some x := q
    by_cases hj : i = j
    · subst hj
      rw [List.getElem?_set_self hi] at q
      cases q
      exact ⟨_, ha, a, vs', rfl, upd_same, r, h4, h5, h6⟩
    · rw [List.getElem?_set_ne hj] at q
      obtain ⟨ov, z1, z2⟩ := R.slots j x q
      refine ⟨ov, z1, z2.mono (Same.refl _) fun b q1 q2 q3 ws q4 eo ⟨dx, ex⟩ => ?_⟩
      have hb : b ≠ a := fun z => by
        subst z
        subst eo
        subst ex
        exact hj (R.apart i j ds dx b e q ha z1)
      rw [upd_ne hb]
      exact ⟨q4, q1, q2⟩
  · obtain ⟨dj', w1⟩ := back j dj q1
    obtain ⟨dl', w2⟩ := back l dl q2
    exact R.apart j l dj' dl' c w1 w2 q3 q4
/-- the list at slot i is frozen -/
theorem Rel.freeze (R : Rel K g s HF σ H) {i : Nat} {ds : List D} {a : Addr} {vs : List V} (e : s.sl[i]? = some (.own ds)) (ha : σ[i]? = some (some (.ref a))) (hv : H a = some (.lst vs)) :
    Rel K g { s with sl := s.sl.set i (.val (.lst ds)) } (upd HF a (.lst vs)) σ H ∧ Same HF (upd HF a (.lst vs)) ∧ Rp K (upd HF a (.lst vs)) (.ref a) (.lst ds) := by
  obtain ⟨a', vs2, h1, h2, h3, h4, h5, h6⟩ := R.getOwn e
  rw [ha] at h1
  cases h1
  rw [hv] at h2
  cases h2
  have hi : i < s.sl.length := (List.getElem?_eq_some_iff.mp e).1
  have sF : Same HF (upd HF a (.lst vs)) := same_upd h4
  have rp : Rp K (upd HF a (.lst vs)) (.ref a) (.lst ds) := .lst upd_same (h3.mono sF)
  have back : ∀ (j : Nat) (dj : List D), (s.sl.set i (.val (.lst ds)))[j]? = some (.own dj) → i ≠ j ∧ s.sl[j]? = some (.own dj) := fun j dj q => by
    by_cases hj : i = j
    · subst hj
      rw [List.getElem?_set_self hi] at q
      cases q
    · rw [List.getElem?_set_ne hj] at q
      exact ⟨hj, q⟩
  refine ⟨⟨fun b u q => ?_, fun b u q => ?_, fun b u q => ?_, ?_, fun j x q => ?_, fun j l dj dl c q1 q2 q3 q4 => ?_⟩, sF, rp⟩
  · by_cases hb : b = a
    · subst hb
      rw [upd_same] at q
      cases q
      exact hv
    · rw [upd_ne hb] at q
      exact R.same b u q
  · have hb : b ≠ a := ne_of_none q h6
    rw [upd_ne hb]
    exact R.out b u q
  · have hb : b ≠ a := fun z => by
      subst z
      have q : s.m b = some u := q
      rw [h5] at q
      cases q
    obtain ⟨z1, z2⟩ := R.mok b u q
    exact ⟨by rw [upd_ne hb]; exact z1, z2.mono sF fun u e => e⟩
  · show σ.length = (s.sl.set i (.val (.lst ds))).length
    rw [List.length_set]
    exact R.len
  · have q : (s.sl.set i (.val (.lst ds)))[j]? = some x := q
    by_cases hj : i = j
    · subst hj
      rw [List.getElem?_set_self hi] at q
      cases q
      exact ⟨_, ha, _, rfl, rp⟩
    · rw [List.getElem?_set_ne hj] at q
      obtain ⟨ov, z1, z2⟩ := R.slots j x q
      refine ⟨ov, z1, z2.mono sF fun b q1 q2 q3 ws q4 eo ⟨dx, ex⟩ => ?_⟩
      have hb : b ≠ a := fun z => by
        subst z
        subst eo
        subst ex
        exact hj (R.apart i j ds dx b e q ha z1)
      rw [upd_ne hb]
      exact ⟨q4, q1, q2⟩
  · obtain ⟨_, w1⟩ := back j dj q1
    obtain ⟨_, w2⟩ := back l dl q2
    exact R.apart j l dj dl c w1 w2 q3 q4
/-- a thing of the store changes its content -/
theorem Rel.mwrite (R : Rel K g s HF σ H) {a : Addr} {ds ds' : List D} {vs' : List V} (e : s.m a = some (.lst ds)) (r : Rps K HF vs' ds') : Rel K g { s with m := mset s.m a (.lst ds') } HF σ (upd H a (.lst vs')) := by
  obtain ⟨h1, vs, h2, h3⟩ := R.mok a _ e
  refine ⟨fun b u q => ?_, fun b u q => ?_, fun b u q => ?_, R.len, fun j x q => ?_, R.apart⟩
  · have hb : b ≠ a := ne_of_none q h1
    rw [upd_ne hb]
    exact R.same b u q
  · obtain ⟨z1, z2, z3⟩ := R.out b u q
    have hb : b ≠ a := fun z => by
      subst z
      rw [z3] at e
      cases e
    rw [upd_ne hb]
    exact ⟨z1, z2, by show mset s.m a _ b = none; rw [mset_ne hb]; exact z3⟩
  · have q : mset s.m a (.lst ds') b = some u := q
    by_cases hb : b = a
    · subst hb
      rw [mset_same] at q
      cases q
      exact ⟨h1, vs', upd_same, r⟩
    · rw [mset_ne hb] at q
      obtain ⟨z1, z2⟩ := R.mok b u q
      exact ⟨z1, z2.mono (Same.refl _) fun u e => by rw [upd_ne hb]; exact e⟩
  · obtain ⟨ov, z1, z2⟩ := R.slots j x q
    refine ⟨ov, z1, z2.mono (Same.refl _) fun b q1 q2 q3 ws q4 eo _ => ?_⟩
    have hb : b ≠ a := fun z => by
      subst z
      rw [q2] at e
      cases e
    rw [upd_ne hb]
    exact ⟨q4, q1, by show mset s.m a _ b = none; rw [mset_ne hb]; exact q2⟩
end
end DL

/-! part DLb -/
namespace DL
open PySem PySem.Spec PyProof.Rows L2

/-! ### readings by data -/
abbrev RE := S → (D → S → Prop) → Prop
abbrev RT := S → (Bool → S → Prop) → Prop
abbrev RA := S → (List D → S → Prop) → Prop
/-- behind a step: the state by data, more frozen -/
def Beh (K : PySem.W.Frag) (g : Hp) (HF : Hp) (σ : L2.St) (s' : S) (HF' H' : Hp) : Prop := Rel K g s' HF' σ H' ∧ Same HF HF'
def liftE (K : PySem.W.Frag) (r : RE) : TE := fun σ H Q => ∃ g s HF, Rel K g s HF σ H ∧ ∃ Qd : D → S → Prop, r s Qd ∧ ∀ d s' v HF' H', Qd d s' → Beh K g HF σ s' HF' H' → Rp K HF' v d → Q v H'
def liftT (K : PySem.W.Frag) (r : RT) : TT := fun σ H Q => ∃ g s HF, Rel K g s HF σ H ∧ ∃ Qd : Bool → S → Prop, r s Qd ∧ ∀ b s' HF' H', Qd b s' → Beh K g HF σ s' HF' H' → Q b H'
def liftA (K : PySem.W.Frag) (r : RA) : TA := fun σ H Q => ∃ g s HF, Rel K g s HF σ H ∧ ∃ Qd : List D → S → Prop, r s Qd ∧ ∀ ds s' vs HF' H', Qd ds s' → Beh K g HF σ s' HF' H' → Rps K HF' vs ds → Q vs H'
/-- a list that is new: it may become a slot's own -/
def liftF (K : PySem.W.Frag) (r : RA) : TE := fun σ H Q => ∃ g s HF, Rel K g s HF σ H ∧ ∃ Qd : List D → S → Prop, r s Qd ∧ ∀ ds s' vs HF' H' p, Qd ds s' → Beh K g HF σ s' HF' H' → Rps K HF' vs ds → H' p = none → Q (.ref p) (upd H' p (.lst vs))
/-- a value that is looked at once: it may be a list that is not frozen -/
def RpT (K : PySem.W.Frag) (HF H : Hp) (v : V) (d : D) : Prop := Rp K HF v d ∨ ∃ a vs ds, v = .ref a ∧ d = .lst ds ∧ H a = some (.lst vs) ∧ Rps K HF vs ds
def liftP (K : PySem.W.Frag) (r : RE) : TE := fun σ H Q => ∃ g s HF, Rel K g s HF σ H ∧ ∃ Qd : D → S → Prop, r s Qd ∧ ∀ d s' v HF' H', Qd d s' → Beh K g HF σ s' HF' H' → RpT K HF' H' v d → Q v H'
structure DE (X : Cx) (e : Expr) (r : RE) : Prop where
  pe : PE X e (liftE X.K r)
structure DP (X : Cx) (e : Expr) (r : RE) : Prop where
  pe : PE X e (liftP X.K r)
structure DT (X : Cx) (e : Expr) (r : RT) : Prop where
  pt : PT X e (liftT X.K r)
structure DW (X : Cx) (e : Expr) (r : RT) : Prop where
  pw : PW X e (liftT X.K r)
structure DA (X : Cx) (es : List Expr) (r : RA) : Prop where
  pa : PA X es (liftA X.K r)
structure DF (X : Cx) (e : Expr) (r : RA) : Prop where
  pe : PE X e (liftF X.K r)

theorem PEweak {X : Cx} {e : Expr} {t t' : TE} (h : PE X e t) (w : ∀ σ H Q, t' σ H Q → t σ H Q) : PE X e t' := ⟨fun pins s σ H Q I q => h.run pins s σ H Q I (w σ H Q q)⟩
theorem PTweak {X : Cx} {e : Expr} {t t' : TT} (h : PT X e t) (w : ∀ σ H Q, t' σ H Q → t σ H Q) : PT X e t' := ⟨fun pins s σ H Q I q => h.run pins s σ H Q I (w σ H Q q)⟩
theorem PWweak {X : Cx} {e : Expr} {t t' : TT} (h : PW X e t) (w : ∀ σ H Q, t' σ H Q → t σ H Q) : PW X e t' := ⟨fun wh pins s σ H Q I q => h.run wh pins s σ H Q I (w σ H Q q)⟩
theorem PAweak {X : Cx} {es : List Expr} {t t' : TA} (h : PA X es t) (w : ∀ σ H Q, t' σ H Q → t σ H Q) : PA X es t' := ⟨fun pos pins s σ H Q I q => h.run pos pins s σ H Q I (w σ H Q q)⟩

section
variable {X : Cx} {a b c e : Expr} {es rest : List Expr} {ra rb rc : RE} {ta tb : RT} {r rr : RA} {pos : Pos} {K : PySem.W.Frag} {g HF H : Hp} {s : S} {σ : L2.St}
theorem Beh.rfl' (R : Rel K g s HF σ H) : Beh K g HF σ s HF H := ⟨R, Same.refl _⟩
theorem Beh.step {s1 s2 : S} {HF1 H1 HF2 H2 : Hp} (x : Beh K g HF σ s1 HF1 H1) (y : Beh K g HF1 σ s2 HF2 H2) : Beh K g HF σ s2 HF2 H2 := ⟨y.1, x.2.trans y.2⟩

/-! ### names and constants -/
def rVar (i : Nat) : RE := fun s Q => match s.sl[i]? with
  | some (.val d) => Q d s
  | some (.own ds) => Q (.lst ds) { s with sl := s.sl.set i (.val (.lst ds)) }
  | _ => False
/-- what stands in a slot, looked at -/
def peekD (s : S) (i : Nat) : Option D := match s.sl[i]? with
  | some (.val (.hnd (.ref a))) => (match s.m a with
    | some (.lst ds) => some (.lst ds)
    | none => some (.hnd (.ref a)))
  | some (.val d) => some d
  | some (.own ds) => some (.lst ds)
  | _ => none
def rPeek (i : Nat) : RE := fun s Q => ∃ d, peekD s i = some d ∧ Q d s
theorem peek_ok {K : PySem.W.Frag} {g : Hp} {s : S} {HF : Hp} {σ : L2.St} {H : Hp} {i : Nat} {d : D} (R : Rel K g s HF σ H) (h : peekD s i = some d) : ∃ v, σ[i]? = some (some v) ∧ RpT K HF H v d := by
  unfold peekD at h
  split at h
  · rename_i a hi
    obtain ⟨v, h1, h2⟩ := R.getVal hi
    cases h2
    split at h
    · rename_i ds hm
      cases h
      obtain ⟨_, vs, h3, h4⟩ := R.mok a _ hm
      exact ⟨_, h1, .inr ⟨a, vs, ds, rfl, rfl, h3, h4⟩⟩
    · cases h
      exact ⟨_, h1, .inl (.hnd _)⟩
  · rename_i d' _ hi
    cases h
    obtain ⟨v, h1, h2⟩ := R.getVal hi
    exact ⟨v, h1, .inl h2⟩
  · rename_i ds hi
    cases h
    obtain ⟨p, vs, h1, h2, h3, _⟩ := R.getOwn hi
    exact ⟨_, h1, .inr ⟨p, vs, ds, rfl, rfl, h2, h3⟩⟩
  · cases h
def rC (d : D) : RE := fun s Q => Q d s
theorem de_var {i : Nat} (h : PE X e (tVar i)) : DE X e (rVar i) := by
  refine ⟨PEweak h fun σ H Q ⟨g, s, HF, R, Qd, q, k⟩ => ?_⟩
  unfold rVar at q
  cases hi : s.sl[i]? with
  | none => rw [hi] at q; exact q.elim
  | some x =>
    rw [hi] at q
    cases x with
    | no => exact q.elim
    | val d =>
      obtain ⟨v, h1, h2⟩ := R.getVal hi
      exact ⟨v, h1, k d s v HF H q (.rfl' R) h2⟩
    | own ds =>
      obtain ⟨p, vs, h1, h2, h3, _⟩ := R.getOwn hi
      obtain ⟨R', e1, e2⟩ := R.freeze hi h1 h2
      exact ⟨_, h1, k _ _ _ _ H q ⟨R', e1⟩ e2⟩
theorem dp_var {i : Nat} (h : PE X e (tVar i)) : DP X e (rPeek i) := by
  refine ⟨PEweak h fun σ H Q ⟨g, s, HF, R, Qd, q, k⟩ => ?_⟩
  obtain ⟨d, hd, q⟩ := q
  obtain ⟨v, h1, h2⟩ := peek_ok R hd
  exact ⟨v, h1, k d s v HF H q (.rfl' R) h2⟩
theorem dp_of (h : DE X e ra) : DP X e ra := ⟨PEweak h.pe fun σ H Q ⟨g, s, HF, R, Qd, q, k⟩ => ⟨g, s, HF, R, Qd, q, fun d s' v HF' H' x y z => k d s' v HF' H' x y (.inl z)⟩⟩
theorem de_const {v : V} {d : D} (h : PE X e (tC v)) (hr : ∀ H, Rp X.K H v d) : DE X e (rC d) :=
  ⟨PEweak h fun σ H Q ⟨g, s, HF, R, Qd, q, k⟩ => k d s v HF H q (.rfl' R) (hr HF)⟩
theorem de_int {i j} : DE X (.Constant (.int i) j pos) (rC (.int i)) := de_const pe_int fun _ => .int i
theorem de_bl {b j} : DE X (.Constant (.bool b) j pos) (rC (.bl b)) := de_const pe_bl fun _ => .bl b
theorem de_non {j} : DE X (.Constant .none j pos) (rC .non) := de_const pe_non fun _ => .non
theorem de_str {x j} : DE X (.Constant (.str x) j pos) (rC (.str x)) := de_const pe_str fun _ => .str x
/-- a global that stands for data -/
theorem de_glob {x : Str} {v : V} {u : Value} {d : D} (hg : Gl X x) (hm : X.mg x = some u) (r : RelV v u) (hr : ∀ H, Rp X.K H v d) (hd : (x == ("__debug__" : Str)) = false := by decide) : DE X (.Name x pos) (rC d) :=
  de_const (pe_glob hg hm r hd) hr

/-! ### two-place operations -/
/-- what an operation asks of data and gives -/
abbrev DO2 := D → D → (D → Prop) → Prop
/-- the operation f does dop -/
def Does (X : Cx) (f : Value → Value → Sem Value) (dop : DO2) : Prop := ∃ r : R2, OpR X f r ∧
  ∀ (g : Hp) (s : S) (HF : Hp) (σ : L2.St) (H : Hp) (x y : V) (d1 d2 : D) (Qd : D → Prop) (Q : VK), Rel X.K g s HF σ H → Rp X.K HF x d1 → Rp X.K HF y d2 → dop d1 d2 Qd →
    (∀ d v HF' H', Qd d → Beh X.K g HF σ s HF' H' → Rp X.K HF' v d → Q v H') → r x y H Q
def rBin (dop : DO2) (ra rb : RE) : RE := fun s Q => ra s fun d1 s1 => rb s1 fun d2 s2 => dop d1 d2 fun d => Q d s2
theorem bin_w {r2 : R2} {dop : DO2} (hd : ∀ (g : Hp) (s : S) (HF : Hp) (σ : L2.St) (H : Hp) (x y : V) (d1 d2 : D) (Qd : D → Prop) (Q : VK), Rel X.K g s HF σ H → Rp X.K HF x d1 → Rp X.K HF y d2 → dop d1 d2 Qd →
    (∀ d v HF' H', Qd d → Beh X.K g HF σ s HF' H' → Rp X.K HF' v d → Q v H') → r2 x y H Q) {Q : VK} (h : liftE X.K (rBin dop ra rb) σ H Q) : tOp r2 (liftE X.K ra) (liftE X.K rb) σ H Q := by
  obtain ⟨g, s, HF, R, Qd, q, k⟩ := h
  refine ⟨g, s, HF, R, _, q, fun d1 s1 x HF1 H1 q1 B1 r1 => ?_⟩
  refine ⟨g, s1, HF1, B1.1, _, q1, fun d2 s2 y HF2 H2 q2 B2 r2 => ?_⟩
  exact hd g s2 HF2 σ H2 x y d1 d2 _ Q B2.1 (r1.mono B2.2) r2 q2 fun d v HF3 H3 q3 B3 r3 => k d s2 v HF3 H3 q3 ((B1.step B2).step B3) r3
theorem de_bin {op : Operator} {dop : DO2} (ho : Does X (binaryOp op) dop) (ha : DE X a ra) (hb : DE X b rb) : DE X (.BinOp a op b pos) (rBin dop ra rb) := by
  obtain ⟨r, h1, h2⟩ := ho
  exact ⟨PEweak (pe_op h1 ha.pe hb.pe) fun σ H Q h => bin_w h2 h⟩
theorem de_cmp {op : CmpOp} {dop : DO2} (ho : Does X (compareOp op) dop) (ha : DE X a ra) (hb : DE X b rb) (hm : behindInMarks op b = false) : DE X (.Compare a [op] [b] pos) (rBin dop ra rb) := by
  obtain ⟨r, h1, h2⟩ := ho
  exact ⟨PEweak (pe_cmpR h1 ha.pe hb.pe hm) fun σ H Q h => bin_w h2 h⟩
/-- a comparison as a test -/
def rB (r : RE) : RT := fun s Q => r s fun d s' => ∃ b, d = .bl b ∧ Q b s'
theorem liftB {t : TE} {ra : RE} (w : ∀ σ H Q, liftE X.K ra σ H Q → t σ H Q) {Q : Bool → Hp → Prop} (h : liftT X.K (rB ra) σ H Q) : t σ H fun x H1 => ∃ k, x = .bl k ∧ Q k H1 := by
  obtain ⟨g, s, HF, R, Qd, q, k⟩ := h
  refine w σ H _ ⟨g, s, HF, R, _, q, fun d s' v HF' H' q1 B r1 => ?_⟩
  obtain ⟨b, rfl, q2⟩ := q1
  cases r1
  exact ⟨b, rfl, k b s' HF' H' q2 B⟩
theorem dt_cmp {op : CmpOp} {dop : DO2} (ho : Does X (compareOp op) dop) (ha : DE X a ra) (hb : DE X b rb) (hm : behindInMarks op b = false) : DT X (.Compare a [op] [b] pos) (rB (rBin dop ra rb)) := by
  obtain ⟨r, h1, h2⟩ := ho
  exact ⟨PTweak (pt_cmpR h1 ha.pe hb.pe hm) fun σ H Q h => liftB (t := tOp r (liftE X.K ra) (liftE X.K rb)) (fun σ H Q h => bin_w h2 h) h⟩
/-- a op b op c -/
def rChn (dop dop' : DO2) (ra rb rc : RE) : RE := fun s Q => ra s fun d1 s1 => rb s1 fun d2 s2 => dop d1 d2 fun z => ∃ k, z = .bl k ∧ if k = true then rc s2 fun d3 s3 => dop' d2 d3 fun d => Q d s3 else Q (.bl false) s2
theorem chn_w {r2 r2' : R2} {dop dop' : DO2} (hd : ∀ (g : Hp) (s : S) (HF : Hp) (σ : L2.St) (H : Hp) (x y : V) (d1 d2 : D) (Qd : D → Prop) (Q : VK), Rel X.K g s HF σ H → Rp X.K HF x d1 → Rp X.K HF y d2 → dop d1 d2 Qd →
    (∀ d v HF' H', Qd d → Beh X.K g HF σ s HF' H' → Rp X.K HF' v d → Q v H') → r2 x y H Q)
    (hd' : ∀ (g : Hp) (s : S) (HF : Hp) (σ : L2.St) (H : Hp) (x y : V) (d1 d2 : D) (Qd : D → Prop) (Q : VK), Rel X.K g s HF σ H → Rp X.K HF x d1 → Rp X.K HF y d2 → dop' d1 d2 Qd →
    (∀ d v HF' H', Qd d → Beh X.K g HF σ s HF' H' → Rp X.K HF' v d → Q v H') → r2' x y H Q) {Q : VK} (h : liftE X.K (rChn dop dop' ra rb rc) σ H Q) : tChain r2 r2' (liftE X.K ra) (liftE X.K rb) (liftE X.K rc) σ H Q := by
  obtain ⟨g, s, HF, R, Qd, q, k⟩ := h
  refine ⟨g, s, HF, R, _, q, fun d1 s1 x HF1 H1 q1 B1 r1 => ?_⟩
  refine ⟨g, s1, HF1, B1.1, _, q1, fun d2 s2 y HF2 H2 q2 B2 r2 => ?_⟩
  refine hd g s2 HF2 σ H2 x y d1 d2 _ _ B2.1 (r1.mono B2.2) r2 q2 fun d v HF3 H3 q3 B3 r3 => ?_
  obtain ⟨b, rfl, q3⟩ := q3
  cases r3
  refine ⟨b, rfl, ?_⟩
  cases b with
  | false => exact iteF (k _ s2 _ HF3 H3 q3 ((B1.step B2).step B3) (.bl false))
  | true =>
    refine iteT ⟨g, s2, HF3, B3.1, _, q3, fun d3 s3 z HF4 H4 q4 B4 r4 => ?_⟩
    exact hd' g s3 HF4 σ H4 y z d2 d3 _ Q B4.1 ((r2.mono B3.2).mono B4.2) r4 q4 fun d v HF5 H5 q5 B5 r5 => k d s3 v HF5 H5 q5 ((((B1.step B2).step B3).step B4).step B5) r5
theorem de_chain {op op' : CmpOp} {dop dop' : DO2} (ho : Does X (compareOp op) dop) (ho' : Does X (compareOp op') dop') (ha : DE X a ra) (hb : DE X b rb) (hc : DE X c rc) (hm : lastMarks [op, op'] [b, c] = false := by with_unfolding_all rfl) :
    DE X (.Compare a [op, op'] [b, c] pos) (rChn dop dop' ra rb rc) := by
  obtain ⟨r, h1, h2⟩ := ho
  obtain ⟨r', h3, h4⟩ := ho'
  exact ⟨PEweak (pe_chain h1 h3 ha.pe hb.pe hc.pe hm) fun σ H Q h => chn_w h2 h4 h⟩
theorem dt_chain {op op' : CmpOp} {dop dop' : DO2} (ho : Does X (compareOp op) dop) (ho' : Does X (compareOp op') dop') (ha : DE X a ra) (hb : DE X b rb) (hc : DE X c rc) (hm : lastMarks [op, op'] [b, c] = false := by with_unfolding_all rfl) :
    DT X (.Compare a [op, op'] [b, c] pos) (rB (rChn dop dop' ra rb rc)) := by
  obtain ⟨r, h1, h2⟩ := ho
  obtain ⟨r', h3, h4⟩ := ho'
  exact ⟨PTweak (pt_chain h1 h3 ha.pe hb.pe hc.pe hm) fun σ H Q h => liftB (t := tChain r r' (liftE X.K ra) (liftE X.K rb) (liftE X.K rc)) (fun σ H Q h => chn_w h2 h4 h) h⟩

/-! ### and, or, not, if -/
def rAnd (ta tb : RT) : RT := fun s Q => ta s fun c s1 => if c = true then tb s1 Q else Q false s1
def rOr (ta tb : RT) : RT := fun s Q => ta s fun c s1 => if c = true then Q true s1 else tb s1 Q
def rNot (ta : RT) : RT := fun s Q => ta s fun c s1 => Q (!c) s1
theorem dt_w (h : DW X e ta) : DT X e ta := ⟨h.pw.pt⟩
theorem dw_and1 (h : DT X a ta) : DW X (.BoolOp .And [a] pos) ta := ⟨pw_and1 h.pt⟩
theorem dw_or1 (h : DT X a ta) : DW X (.BoolOp .Or [a] pos) ta := ⟨pw_or1 h.pt⟩
theorem dw_and (ha : DT X a ta) (hb : DW X (.BoolOp .And (b :: rest) pos) tb) : DW X (.BoolOp .And (a :: b :: rest) pos) (rAnd ta tb) := by
  refine ⟨PWweak (pw_and ha.pt hb.pw) fun σ H Q ⟨g, s, HF, R, Qd, q, k⟩ => ?_⟩
  refine ⟨g, s, HF, R, _, q, fun c s1 HF1 H1 q1 B1 => ?_⟩
  cases c with
  | true => exact iteT ⟨g, s1, HF1, B1.1, _, q1, fun b s2 HF2 H2 q2 B2 => k b s2 HF2 H2 q2 (B1.step B2)⟩
  | false => exact iteF (k false s1 HF1 H1 q1 B1)
theorem dw_or (ha : DT X a ta) (hb : DW X (.BoolOp .Or (b :: rest) pos) tb) : DW X (.BoolOp .Or (a :: b :: rest) pos) (rOr ta tb) := by
  refine ⟨PWweak (pw_or ha.pt hb.pw) fun σ H Q ⟨g, s, HF, R, Qd, q, k⟩ => ?_⟩
  refine ⟨g, s, HF, R, _, q, fun c s1 HF1 H1 q1 B1 => ?_⟩
  cases c with
  | true => exact iteT (k true s1 HF1 H1 q1 B1)
  | false => exact iteF ⟨g, s1, HF1, B1.1, _, q1, fun b s2 HF2 H2 q2 B2 => k b s2 HF2 H2 q2 (B1.step B2)⟩
theorem dt_not (ha : DT X a ta) : DT X (.UnaryOp .Not a pos) (rNot ta) := by
  refine ⟨PTweak (pt_not ha.pt) fun σ H Q ⟨g, s, HF, R, Qd, q, k⟩ => ?_⟩
  exact ⟨g, s, HF, R, _, q, fun c s1 HF1 H1 q1 B1 => k (!c) s1 HF1 H1 q1 B1⟩
/-- .. as values -/
def rAndV (ra rb : RE) : RE := fun s Q => ra s fun d s1 => ∃ c, d = .bl c ∧ if c = true then rb s1 Q else Q (.bl false) s1
def rOrV (ra rb : RE) : RE := fun s Q => ra s fun d s1 => ∃ c, d = .bl c ∧ if c = true then Q (.bl true) s1 else rb s1 Q
def rNotV (ra : RE) : RE := fun s Q => ra s fun d s1 => ∃ c, d = .bl c ∧ Q (.bl (!c)) s1
theorem de_one {op} (h : DE X a ra) : DE X (.BoolOp op [a] pos) ra := ⟨pe_one h.pe⟩
theorem de_and (ha : DE X a ra) (hb : DE X (.BoolOp .And (b :: rest) pos) rb) : DE X (.BoolOp .And (a :: b :: rest) pos) (rAndV ra rb) := by
  refine ⟨PEweak (pe_and ha.pe hb.pe) fun σ H Q ⟨g, s, HF, R, Qd, q, k⟩ => ?_⟩
  refine ⟨g, s, HF, R, _, q, fun d s1 v HF1 H1 q1 B1 r1 => ?_⟩
  obtain ⟨c, rfl, q1⟩ := q1
  cases r1
  refine ⟨c, rfl, ?_⟩
  cases c with
  | true => exact iteT ⟨g, s1, HF1, B1.1, _, q1, fun d2 s2 v2 HF2 H2 q2 B2 r2 => k d2 s2 v2 HF2 H2 q2 (B1.step B2) r2⟩
  | false => exact iteF (k _ s1 _ HF1 H1 q1 B1 (.bl false))
theorem de_or (ha : DE X a ra) (hb : DE X (.BoolOp .Or (b :: rest) pos) rb) : DE X (.BoolOp .Or (a :: b :: rest) pos) (rOrV ra rb) := by
  refine ⟨PEweak (pe_or ha.pe hb.pe) fun σ H Q ⟨g, s, HF, R, Qd, q, k⟩ => ?_⟩
  refine ⟨g, s, HF, R, _, q, fun d s1 v HF1 H1 q1 B1 r1 => ?_⟩
  obtain ⟨c, rfl, q1⟩ := q1
  cases r1
  refine ⟨c, rfl, ?_⟩
  cases c with
  | true => exact iteT (k _ s1 _ HF1 H1 q1 B1 (.bl true))
  | false => exact iteF ⟨g, s1, HF1, B1.1, _, q1, fun d2 s2 v2 HF2 H2 q2 B2 r2 => k d2 s2 v2 HF2 H2 q2 (B1.step B2) r2⟩
theorem de_not (ha : DE X a ra) : DE X (.UnaryOp .Not a pos) (rNotV ra) := by
  refine ⟨PEweak (pe_not ha.pe) fun σ H Q ⟨g, s, HF, R, Qd, q, k⟩ => ?_⟩
  refine ⟨g, s, HF, R, _, q, fun d s1 v HF1 H1 q1 B1 r1 => ?_⟩
  obtain ⟨c, rfl, q1⟩ := q1
  cases r1
  exact ⟨c, rfl, k _ s1 _ HF1 H1 q1 B1 (.bl _)⟩
def rIf (t : RT) (ra rb : RE) : RE := fun s Q => t s fun c s1 => if c = true then ra s1 Q else rb s1 Q
theorem de_if (hc : DT X c ta) (ha : DE X a ra) (hb : DE X b rb) : DE X (.IfExp c a b pos) (rIf ta ra rb) := by
  refine ⟨PEweak (pe_ifExp hc.pt ha.pe hb.pe) fun σ H Q ⟨g, s, HF, R, Qd, q, k⟩ => ?_⟩
  refine ⟨g, s, HF, R, _, q, fun c s1 HF1 H1 q1 B1 => ?_⟩
  cases c with
  | true => exact iteT ⟨g, s1, HF1, B1.1, _, q1, fun d2 s2 v2 HF2 H2 q2 B2 r2 => k d2 s2 v2 HF2 H2 q2 (B1.step B2) r2⟩
  | false => exact iteF ⟨g, s1, HF1, B1.1, _, q1, fun d2 s2 v2 HF2 H2 q2 B2 r2 => k d2 s2 v2 HF2 H2 q2 (B1.step B2) r2⟩

/-! ### truth -/
def tru : D → Option Bool
  | .non => some false
  | .bl b => some b
  | .int i => some (i != 0)
  | .lst ds => some (!ds.isEmpty)
  | .tup ds => some (!ds.isEmpty)
  | .scr ns => some (!ns.isEmpty)
  | _ => none
def rTru (ra : RE) : RT := fun s Q => ra s fun d s1 => ∃ b, tru d = some b ∧ Q b s1
theorem emp_map {α β : Type} {R : α → β → Prop} : ∀ {xs : List α} {ys : List β}, xs.length = ys.length → xs.isEmpty = ys.isEmpty
  | [], [], _ => rfl
  | _ :: _, _ :: _, _ => rfl
  | [], _ :: _, h => by simp at h
  | _ :: _, [], h => by simp at h
theorem truV {v : V} {d : D} {b : Bool} (hs : Same HF H) (r : RpT K HF H v d) (h : tru d = some b) : TruV K v H b := by
  rcases r with r | ⟨p, vs, ds, rfl, rfl, h1, r⟩
  · cases r with
    | non => exact (Option.some.inj h).symm
    | bl c => exact (Option.some.inj h).symm
    | int i => exact (Option.some.inj h).symm
    | str x => cases h
    | hnd v => cases h
    | lst h1 r =>
      have e := Option.some.inj h
      exact .inl ⟨_, SqL.of (hs _ _ h1), by rw [← e, emp_map (R := fun _ _ => True) r.length]⟩
    | tup h1 r =>
      have e := Option.some.inj h
      exact .inr (.inl ⟨_, Same.seqT hs h1, by rw [← e, emp_map (R := fun _ _ => True) r.length]⟩)
    | @scr p ns h1 =>
      have e := Option.some.inj h
      exact .inl ⟨_, hs.seq h1, by rw [← e]; cases ns <;> rfl⟩
  · have e := Option.some.inj h
    exact .inl ⟨_, SqL.of h1, by rw [← e, emp_map (R := fun _ _ => True) r.length]⟩
theorem dt_tru (ha : DP X a ra) (he : ∀ whole, isTrue a X.env whole = (do let v ← whole; standAt a.pos; holding [v] (truthy v)) := by intro _; rfl) : DT X a (rTru ra) := by
  refine ⟨PTweak (pt_truth ha.pe he) fun σ H Q ⟨g, s, HF, R, Qd, q, k⟩ => ?_⟩
  refine ⟨g, s, HF, R, _, q, fun d s1 v HF1 H1 q1 B1 r1 => ?_⟩
  obtain ⟨b, e, q2⟩ := q1
  exact ⟨b, truV B1.1.same r1 e, k b s1 HF1 H1 q2 B1⟩

/-! ### argument lists, displays -/
def rNil : RA := fun s Q => Q [] s
def rCons (ra : RE) (rr : RA) : RA := fun s Q => ra s fun d s1 => rr s1 fun ds s2 => Q (d :: ds) s2
theorem da_nil : DA X [] rNil := ⟨PAweak pa_nil fun σ H Q ⟨g, s, HF, R, Qd, q, k⟩ => k [] s [] HF H q (.rfl' R) .nil⟩
theorem da_cons (ha : DE X e ra) (hr : DA X es rr) (hs : starEach (e :: es) X.env = (false, eval e X.env) :: starEach es X.env := by rfl) : DA X (e :: es) (rCons ra rr) := by
  refine ⟨PAweak (pa_cons ha.pe hr.pa hs) fun σ H Q ⟨g, s, HF, R, Qd, q, k⟩ => ?_⟩
  refine ⟨g, s, HF, R, _, q, fun d s1 v HF1 H1 q1 B1 r1 => ⟨g, s1, HF1, B1.1, _, q1, fun ds s2 vs HF2 H2 q2 B2 r2 => ?_⟩⟩
  exact k (d :: ds) s2 (v :: vs) HF2 H2 q2 (B1.step B2) (.cons (r1.mono B2.2) r2)
def rTup (rr : RA) : RE := fun s Q => rr s fun ds s1 => ds.length ≤ sizeLine ∧ Q (.tup ds) s1
def rLst (rr : RA) : RA := fun s Q => rr s fun ds s1 => ds.length ≤ sizeLine ∧ Q ds s1
theorem de_tup {k1} (h : DA X es rr) : DE X (.Tuple es k1 pos) (rTup rr) := by
  refine ⟨PEweak (pe_tup h.pa) fun σ H Q ⟨g, s, HF, R, Qd, q, k⟩ => ?_⟩
  refine ⟨g, s, HF, R, _, q, fun ds s1 vs HF1 H1 ⟨z, q1⟩ B1 r1 => ⟨by rw [r1.length]; exact z, fun p hp => ?_⟩⟩
  exact k _ s1 _ _ _ q1 (B1.step ⟨B1.1.alloc hp (.tup vs), same_upd (B1.1.freshF hp)⟩) (.tup (SqT.of upd_same) (r1.mono (same_upd (B1.1.freshF hp))))
theorem df_lst (h : DA X es rr) : DF X (.List es pos) (rLst rr) := by
  refine ⟨PEweak (pe_lst h.pa) fun σ H Q ⟨g, s, HF, R, Qd, q, k⟩ => ?_⟩
  exact ⟨g, s, HF, R, _, q, fun ds s1 vs HF1 H1 ⟨z, q1⟩ B1 r1 => ⟨by rw [r1.length]; exact z, fun p hp => k ds s1 vs HF1 H1 p q1 B1 r1 hp⟩⟩
/-- a new list, frozen at once -/
def rFz (r : RA) : RE := fun s Q => r s fun ds s1 => Q (.lst ds) s1
theorem de_df (h : DF X e r) : DE X e (rFz r) := by
  refine ⟨PEweak h.pe fun σ H Q ⟨g, s, HF, R, Qd, q, k⟩ => ?_⟩
  refine ⟨g, s, HF, R, _, q, fun ds s1 vs HF1 H1 p q1 B1 r1 hp => ?_⟩
  exact k _ s1 _ _ _ q1 (B1.step ⟨B1.1.alloc hp (.lst vs), same_upd (B1.1.freshF hp)⟩) (.lst upd_same (r1.mono (same_upd (B1.1.freshF hp))))
end
end DL

/-! part DLc -/
namespace DL
open PySem PySem.Spec PyProof.Rows L2

/-! ### operators -/
def dAdd : DO2
  | .int i, .int j, Q => Q (.int (i + j))
  | .int i, .bl b, Q => Q (.int (i + b2i b))
  | .tup a, .tup b, Q => a.length + b.length ≤ sizeLine ∧ Q (.tup (a ++ b))
  | .lst a, .lst b, Q => a.length + b.length ≤ sizeLine ∧ Q (.lst (a ++ b))
  | .str a, .str b, Q => a.length + b.length ≤ sizeLine ∧ Q (.str (a ++ b))
  | _, _, _ => False
def dSub : DO2
  | .int i, .int j, Q => Q (.int (i - j))
  | _, _, _ => False
def CM (i j : Int) : Prop := CMul i j ∨ CMulW i j
def dMul : DO2
  | .int i, .int j, Q => CM i j ∧ Q (.int (i * j))
  | .lst a, .int k, Q => (-(2 ^ 63) ≤ k ∧ k < 2 ^ 63 ∧ a.length * k.toNat ≤ sizeLine) ∧ Q (.lst (List.replicate k.toNat a).flatten)
  | .tup a, .int k, Q => (a ≠ [] ∧ 2 ≤ k ∧ k ≤ 1000 ∧ a.length ≤ 1000) ∧ Q (.tup (List.replicate k.toNat a).flatten)
  | _, _, _ => False
def CDivZ (j : Int) : Prop := j ≠ 0 ∧ j.natAbs.log2 < 9000
def dDiv : DO2
  | .int i, .int j, Q => CDivZ j ∧ Q (.int (i.fdiv j))
  | _, _, _ => False
def dMod : DO2
  | .int i, .int j, Q => j ≠ 0 ∧ Q (.int (i.fmod j))
  | _, _, _ => False
def dPow : DO2
  | .int i, .int j, Q => CPow i j ∧ Q (.int (i ^ j.toNat))
  | _, _, _ => False
def dLt : DO2
  | .int i, .int j, Q => Q (.bl (decide (i < j)))
  | .tup a, .tup b, Q => ∃ ns ms : List Int, a = ns.map D.int ∧ b = ms.map D.int ∧ Q (.bl (HT.lexLt ns ms))
  | _, _, _ => False
def dLe : DO2
  | .int i, .int j, Q => Q (.bl (decide (i ≤ j)))
  | _, _, _ => False
def dGt : DO2
  | .int i, .int j, Q => Q (.bl (decide (j < i)))
  | _, _, _ => False
def dGe : DO2
  | .int i, .int j, Q => Q (.bl (decide (j ≤ i)))
  | _, _, _ => False

section
variable {K : PySem.W.Frag}
theorem rep_rps {K : PySem.W.Frag} {H : Hp} {vs : List V} {ds : List D} (r : Rps K H vs ds) : ∀ k : Nat, Rps K H (List.replicate k vs).flatten (List.replicate k ds).flatten
  | 0 => .nil
  | k + 1 => by
    rw [List.replicate_succ, List.replicate_succ, List.flatten_cons, List.flatten_cons]
    exact r.append (rep_rps r k)
end

section
variable {X : Cx}
/-- an operation of ints alone -/
theorem does_ii {f : Value → Value → Sem Value} {C : Int → Int → Prop} {k : Int → Int → V} {kd : Int → Int → D} (ho : OpR X f (rI C k)) (hk : ∀ i j H, Rp X.K H (k i j) (kd i j)) {dop : DO2}
    (hd : ∀ d1 d2 Q, dop d1 d2 Q → ∃ i j, d1 = .int i ∧ d2 = .int j ∧ C i j ∧ Q (kd i j)) : Does X f dop := by
  refine ⟨_, ho, fun g s HF σ H x y d1 d2 Qd Q R r1 r2 h q => ?_⟩
  obtain ⟨i, j, rfl, rfl, c, h⟩ := hd d1 d2 Qd h
  cases r1
  cases r2
  exact ⟨i, j, rfl, rfl, c, q _ _ HF H h (.rfl' R) (hk i j HF)⟩
theorem does_ii0 {f : Value → Value → Sem Value} {k : Int → Int → V} {kd : Int → Int → D} (ho : OpR X f (rI0 k)) (hk : ∀ i j H, Rp X.K H (k i j) (kd i j)) {dop : DO2}
    (hd : ∀ d1 d2 Q, dop d1 d2 Q → ∃ i j, d1 = .int i ∧ d2 = .int j ∧ Q (kd i j)) : Does X f dop := by
  refine ⟨_, ho, fun g s HF σ H x y d1 d2 Qd Q R r1 r2 h q => ?_⟩
  obtain ⟨i, j, e1, e2, h'⟩ := hd d1 d2 Qd h
  subst e1
  subst e2
  cases r1
  cases r2
  exact ⟨i, j, rfl, rfl, q _ _ HF H h' (.rfl' R) (hk i j HF)⟩
theorem frz2 {g : Hp} {s : S} {HF : Hp} {σ : L2.St} {H : Hp} (R : Rel X.K g s HF σ H) {p : Addr} (hp : H p = none) (o : HO) : Beh X.K g HF σ s (upd HF p o) (upd H p o) := ⟨R.alloc hp o, same_upd (R.freshF hp)⟩
theorem does_add : Does X (binaryOp .Add) dAdd := by
  refine ⟨_, op_add.or (op_add_ib.or (op_catA.or (op_cat.or op_add_str))), fun g s HF σ H x y d1 d2 Qd Q R r1 r2 h q => ?_⟩
  unfold dAdd at h
  split at h
  · cases r1
    cases r2
    exact .inl ⟨_, _, rfl, rfl, q _ _ HF H h (.rfl' R) (.int _)⟩
  · cases r1
    cases r2
    exact .inr (.inl ⟨_, _, rfl, rfl, q _ _ HF H h (.rfl' R) (.int _)⟩)
  · cases r1 with
    | @tup a xs ds h1 q1 =>
      cases r2 with
      | @tup b ys es h2 q2 =>
        refine .inr (.inr (.inl ⟨a, b, xs, ys, rfl, rfl, Same.seqT R.same h1, Same.seqT R.same h2, by rw [q1.length, q2.length]; exact h.1, fun e => ?_, fun _ e => ?_, fun _ _ p hp => ?_⟩))
        · subst e
          cases q1
          exact q _ _ HF H h.2 (.rfl' R) (.tup h2 q2)
        · subst e
          cases q2
          exact q _ _ HF H h.2 (.rfl' R) (by rw [List.append_nil]; exact .tup h1 q1)
        · exact q _ _ _ _ h.2 (frz2 R hp _) (.tup (SqT.of upd_same) ((q1.append q2).mono (same_upd (R.freshF hp))))
  · cases r1 with
    | @lst a xs ds h1 q1 =>
      cases r2 with
      | @lst b ys es h2 q2 =>
        refine .inr (.inr (.inr (.inl ⟨a, b, xs, ys, rfl, rfl, R.same _ _ h1, R.same _ _ h2, by rw [q1.length, q2.length]; exact h.1, fun p hp => ?_⟩)))
        exact q _ _ _ _ h.2 (frz2 R hp _) (.lst upd_same ((q1.append q2).mono (same_upd (R.freshF hp))))
  · cases r1
    cases r2
    exact .inr (.inr (.inr (.inr ⟨_, _, rfl, rfl, h.1, q _ _ HF H h.2 (.rfl' R) (.str _)⟩)))
  · exact h.elim
theorem does_sub : Does X (binaryOp .Sub) dSub := does_ii0 op_sub (fun _ _ _ => .int _) fun d1 d2 Q h => by
  unfold dSub at h
  split at h
  · exact ⟨_, _, rfl, rfl, h⟩
  · exact h.elim
theorem op_mulB : OpR X (binaryOp .Mult) (rI CM fun i j => .int (i * j)) := opI fun _ _ _ _ _ _ _ hc q => mul_int q (hc.elim CMul.ok CMulW.ok)
theorem does_mul : Does X (binaryOp .Mult) dMul := by
  refine ⟨_, op_mulB.or (op_rep.or op_repT), fun g s HF σ H x y d1 d2 Qd Q R r1 r2 h q => ?_⟩
  unfold dMul at h
  split at h
  · cases r1
    cases r2
    exact .inl ⟨_, _, rfl, rfl, h.1, q _ _ HF H h.2 (.rfl' R) (.int _)⟩
  · cases r1 with
    | @lst a xs ds h1 q1 =>
      cases r2
      obtain ⟨⟨z1, z2, z3⟩, h⟩ := h
      refine .inr (.inl ⟨a, _, xs, rfl, rfl, R.same _ _ h1, z1, z2, by rw [q1.length]; exact z3, fun p hp => ?_⟩)
      exact q _ _ _ _ h (frz2 R hp _) (.lst upd_same ((rep_rps q1 _).mono (same_upd (R.freshF hp))))
  · cases r1 with
    | @tup a xs ds h1 q1 =>
      cases r2
      obtain ⟨⟨z1, z2, z3, z4⟩, h⟩ := h
      refine .inr (.inr ⟨a, _, xs, rfl, rfl, Same.seqT R.same h1, fun e => ?_, z2, z3, by rw [q1.length]; exact z4, fun p hp => ?_⟩)
      · subst e
        cases q1
        exact z1 rfl
      exact q _ _ _ _ h (frz2 R hp _) (.tup (SqT.of upd_same) ((rep_rps q1 _).mono (same_upd (R.freshF hp))))
  · exact h.elim
theorem op_fdivZ : OpR X (binaryOp .FloorDiv) (rI (fun _ j => CDivZ j) fun i j => .int (i.fdiv j)) := opI fun i j _ _ _ _ _ hc q => floordiv_int hc.1 q (.inl (PyProof.noPylong_of_log2 hc.2))
theorem does_div : Does X (binaryOp .FloorDiv) dDiv := does_ii op_fdivZ (fun _ _ _ => .int _) fun d1 d2 Q h => by
  unfold dDiv at h
  split at h
  · exact ⟨_, _, rfl, rfl, h.1, h.2⟩
  · exact h.elim
theorem does_mod : Does X (binaryOp .Mod) dMod := does_ii op_modN (fun _ _ _ => .int _) fun d1 d2 Q h => by
  unfold dMod at h
  split at h
  · exact ⟨_, _, rfl, rfl, h.1, h.2⟩
  · exact h.elim
theorem does_pow : Does X (binaryOp .Pow) dPow := does_ii op_pow (fun _ _ _ => .int _) fun d1 d2 Q h => by
  unfold dPow at h
  split at h
  · exact ⟨_, _, rfl, rfl, h.1, h.2⟩
  · exact h.elim
theorem does_lt (hu : X.A.units < cLine) : Does X (compareOp .Lt) dLt := by
  refine ⟨_, op_lt.or (op_ltT hu), fun g s HF σ H x y d1 d2 Qd Q R r1 r2 h q => ?_⟩
  unfold dLt at h
  split at h
  · cases r1
    cases r2
    exact .inl ⟨_, _, rfl, rfl, q _ _ HF H h (.rfl' R) (.bl _)⟩
  · cases r1 with
    | @tup a xs ds h1 q1 =>
      cases r2 with
      | @tup b ys es h2 q2 =>
        obtain ⟨ns, ms, rfl, rfl, h⟩ := h
        rw [q1.of_ints] at h1
        rw [q2.of_ints] at h2
        exact .inr ⟨a, b, ns, ms, rfl, rfl, Same.seqT R.same h1, Same.seqT R.same h2, q _ _ HF H h (.rfl' R) (.bl _)⟩
  · exact h.elim
theorem does_le : Does X (compareOp .LtE) dLe := does_ii0 op_le (fun _ _ _ => .bl _) fun d1 d2 Q h => by
  unfold dLe at h
  split at h
  · exact ⟨_, _, rfl, rfl, h⟩
  · exact h.elim
theorem does_gt : Does X (compareOp .Gt) dGt := does_ii0 op_gt (fun _ _ _ => .bl _) fun d1 d2 Q h => by
  unfold dGt at h
  split at h
  · exact ⟨_, _, rfl, rfl, h⟩
  · exact h.elim
theorem does_ge : Does X (compareOp .GtE) dGe := does_ii0 op_ge (fun _ _ _ => .bl _) fun d1 d2 Q h => by
  unfold dGe at h
  split at h
  · exact ⟨_, _, rfl, rfl, h⟩
  · exact h.elim
end

/-! ### data of the library's own kind: == and repr -/
mutual
def D.py : D → PyData
  | .non => .none
  | .bl b => .bool b
  | .int i => .int i
  | .str x => .str x
  | .lst ds => .list (pys ds)
  | .tup ds => .tuple (pys ds)
  | .scr ns => .list (ns.map PyData.int)
  | .hnd _ => .none
def pys : List D → List PyData
  | [] => []
  | d :: ds => d.py :: pys ds
end
mutual
/-- no handle, written texts small, depth below n -/
def D.ok : D → Nat → Bool
  | .non, _ => true
  | .bl _, _ => true
  | .int _, _ => true
  | .str x, _ => PyData.strOk x
  | .lst ds, n => (match n with
    | 0 => false
    | m + 1 => oks ds m)
  | .tup ds, n => (match n with
    | 0 => false
    | m + 1 => oks ds m)
  | .scr _, _ => false
  | .hnd _, _ => false
def oks : List D → Nat → Bool
  | [], _ => true
  | d :: ds, n => d.ok n && oks ds n
end
mutual
theorem Rp.dp {K : PySem.W.Frag} {HF H : Hp} (hs : Same HF H) : ∀ {v : V} (d : D) (n : Nat), Rp K HF v d → d.ok n = true → Dp K H v d.py
  | _, .non, _, .non, _ => .non
  | _, .bl _, _, .bl b, _ => .bl b
  | _, .int _, _, .int i, _ => .int i
  | _, .str _, _, .str x, _ => .str x
  | _, .lst ds, 0, .lst h r, z => by simp [D.ok] at z
  | _, .tup ds, 0, .tup h r, z => by simp [D.ok] at z
  | _, .lst ds, n + 1, .lst h r, z => .lst (SqL.of (hs _ _ h)) (Rps.dp hs ds n r z)
  | _, .tup ds, n + 1, .tup h r, z => .tup (Same.seqT hs h) (Rps.dp hs ds n r z)
  | _, .scr _, _, _, z => by simp [D.ok] at z
  | _, .hnd _, _, _, z => by simp [D.ok] at z
theorem Rps.dp {K : PySem.W.Frag} {HF H : Hp} (hs : Same HF H) : ∀ {vs : List V} (ds : List D) (n : Nat), Rps K HF vs ds → oks ds n = true → DpAll K H vs (pys ds)
  | _, [], _, .nil, _ => .nil
  | _, d :: ds, n, .cons h r, z => by
    have z : (d.ok n && oks ds n) = true := z
    obtain ⟨z1, z2⟩ := Bool.and_eq_true_iff.mp z
    exact .cons (Rp.dp hs d n h z1) (Rps.dp hs ds n r z2)
end
mutual
theorem lay_ok : ∀ (d : D) (n : Nat), d.ok n = true → d.py.canLay0 = true ∧ d.py.depth ≤ n
  | .non, _, _ => ⟨rfl, Nat.zero_le _⟩
  | .bl _, _, _ => ⟨rfl, Nat.zero_le _⟩
  | .int _, _, _ => ⟨rfl, Nat.zero_le _⟩
  | .str x, _, z => ⟨z, Nat.zero_le _⟩
  | .lst ds, 0, z => by simp [D.ok] at z
  | .tup ds, 0, z => by simp [D.ok] at z
  | .lst ds, n + 1, z => by
    obtain ⟨h1, h2⟩ := lays_ok ds n z
    exact ⟨h1, Nat.succ_le_succ h2⟩
  | .tup ds, n + 1, z => by
    obtain ⟨h1, h2⟩ := lays_ok ds n z
    exact ⟨h1, Nat.succ_le_succ h2⟩
  | .scr _, _, z => by simp [D.ok] at z
  | .hnd _, _, z => by simp [D.ok] at z
theorem lays_ok : ∀ (ds : List D) (n : Nat), oks ds n = true → PyData.canLayAll0 (pys ds) = true ∧ PyData.depthAll (pys ds) ≤ n
  | [], _, _ => ⟨rfl, Nat.zero_le _⟩
  | d :: ds, n, z => by
    have z : (d.ok n && oks ds n) = true := z
    obtain ⟨z1, z2⟩ := Bool.and_eq_true_iff.mp z
    obtain ⟨h1, h2⟩ := lay_ok d n z1
    obtain ⟨h3, h4⟩ := lays_ok ds n z2
    refine ⟨?_, ?_⟩
    · show (d.py.canLay0 && PyData.canLayAll0 (pys ds)) = true
      rw [h1, h3]
      rfl
    · show max d.py.depth (PyData.depthAll (pys ds)) ≤ n
      omega
end
theorem shaped_ok {d : D} (h : d.ok 60 = true) : SeqAt.shaped d.py = true := by
  obtain ⟨h1, h2⟩ := lay_ok d 60 h
  show (d.py.canLay0 && decide (d.py.depth ≤ 64)) = true
  rw [h1, decide_eq_true (Nat.le_trans h2 (by decide))]
  rfl
def eqd (a b : D) : Bool := PyData.eqv a.py b.py
theorem eqd_self {d : D} (h : d.ok 60 = true) : eqd d d = true := SeqAt.eqv_refl _ (lay_ok d 60 h).1
@[simp] theorem eqd_int (i j : Int) : eqd (.int i) (.int j) = (i == j) := rfl
def dEq : DO2 := fun a b Q => a.ok 60 = true ∧ b.ok 60 = true ∧ Q (.bl (eqd a b))
def dNe : DO2 := fun a b Q => a.ok 60 = true ∧ b.ok 60 = true ∧ Q (.bl (!eqd a b))
section
variable {X : Cx}
theorem does_eq (hu : X.A.units + 64 < cLine) : Does X (compareOp .Eq) dEq := by
  refine ⟨_, op_eqD hu, fun g s HF σ H x y d1 d2 Qd Q R r1 r2 h q => ?_⟩
  obtain ⟨h1, h2, h⟩ := h
  exact ⟨d1.py, d2.py, r1.dp R.same d1 60 h1, r2.dp R.same d2 60 h2, shaped_ok h1, shaped_ok h2, q _ _ HF H h (.rfl' R) (.bl _)⟩
theorem does_ne (hu : X.A.units + 64 < cLine) : Does X (compareOp .NotEq) dNe := by
  refine ⟨_, op_neD hu, fun g s HF σ H x y d1 d2 Qd Q R r1 r2 h q => ?_⟩
  obtain ⟨h1, h2, h⟩ := h
  exact ⟨d1.py, d2.py, r1.dp R.same d1 60 h1, r2.dp R.same d2 60 h2, shaped_ok h1, shaped_ok h2, q _ _ HF H h (.rfl' R) (.bl _)⟩
/-- is None, is a bool -/
def dIs : DO2
  | d, .non, Q => Q (.bl (match d with
    | .non => true
    | _ => false))
  | .bl a, .bl b, Q => Q (.bl (decide (a = b)))
  | _, _, _ => False
def dIsnt : DO2
  | d, .non, Q => Q (.bl (match d with
    | .non => false
    | _ => true))
  | .bl a, .bl b, Q => Q (.bl (!decide (a = b)))
  | _, _, _ => False
def noH : D → Bool
  | .hnd _ => false
  | _ => true
theorem is_non {K : PySem.W.Frag} {H : Hp} {v : V} {d : D} (r : Rp K H v d) (h : noH d = true) : decide (v = .non) = (match d with
    | .non => true
    | _ => false) := by
  cases r <;> first | rfl | (cases h)
end
end DL

/-! part DLd -/
namespace DL
open PySem PySem.Spec PyProof.Rows L2

/-! ### repr: what is shown, and a bound of its length -/
mutual
/-- every int below 2 ^ 1920 -/
def D.shw : D → Bool
  | .int i => decide (i.natAbs.log2 < 1920)
  | .lst ds => shws ds
  | .tup ds => shws ds
  | _ => true
def shws : List D → Bool
  | [] => true
  | d :: ds => d.shw && shws ds
end
mutual
def D.sz : D → Nat
  | .int _ => 1930
  | .lst ds => szs ds + 4
  | .tup ds => szs ds + 4
  | .str x => (reprText x).length
  | _ => 6
def szs : List D → Nat
  | [] => 0
  | d :: ds => d.sz + 2 + szs ds
end
mutual
theorem showable_ok : ∀ (d : D) (n : Nat), d.ok n = true → d.shw = true → d.py.showable = true ∧ d.py.hasDict = false
  | .non, _, _, _ => ⟨rfl, rfl⟩
  | .bl _, _, _, _ => ⟨rfl, rfl⟩
  | .int _, _, _, z => ⟨z, rfl⟩
  | .str x, _, _, _ => ⟨rfl, rfl⟩
  | .lst ds, 0, z, _ => by simp [D.ok] at z
  | .tup ds, 0, z, _ => by simp [D.ok] at z
  | .lst ds, n + 1, z, w => showables_ok ds n z w
  | .tup ds, n + 1, z, w => showables_ok ds n z w
  | .scr _, _, z, _ => by simp [D.ok] at z
  | .hnd _, _, z, _ => by simp [D.ok] at z
theorem showables_ok : ∀ (ds : List D) (n : Nat), oks ds n = true → shws ds = true → PyData.showableAll (pys ds) = true ∧ PyData.hasDictAll (pys ds) = false
  | [], _, _, _ => ⟨rfl, rfl⟩
  | d :: ds, n, z, w => by
    have z : (d.ok n && oks ds n) = true := z
    have w : (d.shw && shws ds) = true := w
    obtain ⟨z1, z2⟩ := Bool.and_eq_true_iff.mp z
    obtain ⟨w1, w2⟩ := Bool.and_eq_true_iff.mp w
    obtain ⟨h1, h2⟩ := showable_ok d n z1 w1
    obtain ⟨h3, h4⟩ := showables_ok ds n z2 w2
    refine ⟨?_, ?_⟩
    · show (d.py.showable && PyData.showableAll (pys ds)) = true
      rw [h1, h3]
      rfl
    · show (d.py.hasDict || PyData.hasDictAll (pys ds)) = false
      rw [h2, h4]
      rfl
end
theorem pil_cons (t : Str) (ts : List Str) : piled (t :: ts) = t.length + 2 + piled ts := by
  simp [piled]
theorem tfrom_le : ∀ (ts : List Str) (k : Nat) (acc : Str), (textFrom k acc ts).length ≤ acc.length + piled ts
  | [], _, acc => by show acc.length ≤ acc.length + piled []; omega
  | t :: r, k, acc => by
    show (textFrom (k + 1) (acc ++ (if k > 0 then ", " else "" : String) ++ t) r).length ≤ _
    have h := tfrom_le r (k + 1) (acc ++ (if k > 0 then ", " else "" : String) ++ t)
    rw [pil_cons]
    rw [strLen_append, strLen_append] at h
    have e : (Str.ofString (if k > 0 then ", " else "")).length ≤ 2 := by
      by_cases hk : k > 0
      · rw [if_pos hk]
        decide
      · rw [if_neg hk]
        decide
    have e' : ((if k > 0 then ", " else "" : String) : Str).length ≤ 2 := e
    omega
theorem join_le : ∀ ts : List Str, (Str.join ", " ts).length ≤ piled ts
  | [] => by show (Str.join ", " []).length ≤ _; exact Nat.zero_le _
  | t :: r => by
    have h := join_length_add (t :: r) (by simp)
    omega
mutual
theorem shown_sz : ∀ (d : D) (n : Nat), d.ok n = true → d.shw = true → d.py.shown.length ≤ d.sz
  | .non, _, _, _ => by show (Str.ofString "None").length ≤ 6; decide
  | .bl b, _, _, _ => by
    cases b
    · show (Str.ofString "False").length ≤ 6; decide
    · show (Str.ofString "True").length ≤ 6; decide
  | .int i, _, _, z => by
    have h : i.natAbs.log2 < 1920 := of_decide_eq_true z
    have e := int_text_length_le (k := 1920) (by decide) h
    show (Str.ofString (toString i)).length ≤ 1930
    rw [PySem.ofString_length]
    omega
  | .str x, _, _, _ => Nat.le_refl _
  | .lst ds, 0, z, _ => by simp [D.ok] at z
  | .tup ds, 0, z, _ => by simp [D.ok] at z
  | .lst ds, n + 1, z, w => by
    have h := showns_sz ds n z w
    have h1 := tfrom_le (PyData.shownAll (pys ds)) 0 "["
    show (textFrom 0 "[" (PyData.shownAll (pys ds)) ++ ("]" : Str)).length ≤ szs ds + 4
    rw [strLen_append]
    have e1 : ("[" : Str).length = 1 := by decide
    have e2 : ("]" : Str).length = 1 := by decide
    omega
  | .tup ds, n + 1, z, w => by
    have h := showns_sz ds n z w
    have h1 := join_le (PyData.shownAll (pys ds))
    show (tupleText (PyData.shownAll (pys ds))).length ≤ szs ds + 4
    unfold tupleText
    rw [strLen_append, strLen_append]
    have e1 : ("(" : Str).length = 1 := by decide
    have e2 : ∀ b : Bool, ((if b = true then ",)" else ")" : String) : Str).length ≤ 2 := by
      intro b
      cases b
      · show (Str.ofString ")").length ≤ 2; decide
      · show (Str.ofString ",)").length ≤ 2; decide
    have e3 := e2 ((PyData.shownAll (pys ds)).length == 1)
    omega
  | .scr _, _, z, _ => by simp [D.ok] at z
  | .hnd _, _, z, _ => by simp [D.ok] at z
theorem showns_sz : ∀ (ds : List D) (n : Nat), oks ds n = true → shws ds = true → piled (PyData.shownAll (pys ds)) ≤ szs ds
  | [], _, _, _ => by show piled [] ≤ 0; exact Nat.le_refl _
  | d :: ds, n, z, w => by
    have z : (d.ok n && oks ds n) = true := z
    have w : (d.shw && shws ds) = true := w
    obtain ⟨z1, z2⟩ := Bool.and_eq_true_iff.mp z
    obtain ⟨w1, w2⟩ := Bool.and_eq_true_iff.mp w
    have h1 := shown_sz d n z1 w1
    have h2 := showns_sz ds n z2 w2
    show piled (d.py.shown :: PyData.shownAll (pys ds)) ≤ d.sz + 2 + szs ds
    rw [pil_cons]
    omega
end
def rep (d : D) : Str := d.py.shown
section
variable {X : Cx}
/-- repr(x) of plain data -/
theorem call_reprD (hg : X.A.guards = some []) (hu : X.A.units + 100 < cLine) : CallR X (.builtin "repr") (fun xs H Q => ∃ v d, xs = [v] ∧ Dp X.K H v d ∧ d.showable = true ∧ d.hasDict = false ∧ d.depth ≤ 64 ∧ d.shown.length ≤ sizeLine ∧ Q (.str d.shown) H) := by
  intro pins s σ H xs us Q I r h
  obtain ⟨v, d, rfl, hd, h1, h2, h3, h4, q⟩ := h
  obtain ⟨u, rfl, rv⟩ := vals1 r
  obtain ⟨as, rd⟩ := Dp.reads I d v u hd rv
  cases hd with
  | non =>
    cases rv
    exact PySem.P.repr_of_none ⟨.str _, H, I.tok _, ⟨_, rfl⟩, q⟩
  | bl b =>
    cases rv
    exact PySem.P.repr_of_bool ⟨.str _, H, I.tok _, ⟨_, rfl⟩, q⟩
  | int i =>
    obtain ⟨t, rfl⟩ := rv
    exact PySem.P.repr_of_int (of_decide_eq_true h1) ⟨.str _, H, I.tok _, ⟨_, rfl⟩, q⟩
  | str x =>
    obtain ⟨t, rfl⟩ := rv
    exact PySem.P.repr_of_str ⟨.str _, H, I.tok _, ⟨_, rfl⟩, q⟩ h4
  | lst a b =>
    cases rv
    exact repr_of_reads' rd h1 (fun z => by rw [h2] at z; cases z) hg (by omega) (fun _ _ e => e) (fun h' u tk hk => ⟨.str _, H, I.kept hk, ⟨_, rfl⟩, q⟩) h4
  | tup a b =>
    cases rv
    exact repr_of_reads' rd h1 (fun z => by rw [h2] at z; cases z) hg (by omega) (fun _ _ e => e) (fun h' u tk hk => ⟨.str _, H, I.kept hk, ⟨_, rfl⟩, q⟩) h4
end

/-! ### built-in functions of one value -/
abbrev DO1 := D → (D → Prop) → Prop
def Does1 (X : Cx) (f : Value) (dc : DO1) : Prop := ∃ r : List V → Hp → VK → Prop, CallR X f r ∧
  ∀ (g : Hp) (s : S) (HF : Hp) (σ : L2.St) (H : Hp) (x : V) (d : D) (Qd : D → Prop) (Q : VK), Rel X.K g s HF σ H → RpT X.K HF H x d → dc d Qd →
    (∀ d v HF' H', Qd d → Beh X.K g HF σ s HF' H' → Rp X.K HF' v d → Q v H') → r [x] H Q
def rOne (dc : DO1) (ra : RE) : RE := fun s Q => ra s fun d s1 => dc d fun d' => Q d' s1
/-- what makes a new list of a value -/
def DoesF (X : Cx) (f : Value) (dc : D → (List D → Prop) → Prop) : Prop := ∃ r : List V → Hp → VK → Prop, CallR X f r ∧
  ∀ (g : Hp) (s : S) (HF : Hp) (σ : L2.St) (H : Hp) (x : V) (d : D) (Qd : List D → Prop) (Q : VK), Rel X.K g s HF σ H → RpT X.K HF H x d → dc d Qd →
    (∀ ds vs p, Qd ds → Rps X.K HF vs ds → H p = none → Q (.ref p) (upd H p (.lst vs))) → r [x] H Q
def rOneF (dc : D → (List D → Prop) → Prop) (ra : RE) : RA := fun s Q => ra s fun d s1 => dc d fun ds => Q ds s1
section
variable {X : Cx} {x : Str} {p pos : Pos} {e : Expr} {ra : RE} {id T : String}
theorem one_w {r : List V → Hp → VK → Prop} {dc : DO1} (hd : ∀ (g : Hp) (s : S) (HF : Hp) (σ : L2.St) (H : Hp) (x : V) (d : D) (Qd : D → Prop) (Q : VK), Rel X.K g s HF σ H → RpT X.K HF H x d → dc d Qd →
    (∀ d v HF' H', Qd d → Beh X.K g HF σ s HF' H' → Rp X.K HF' v d → Q v H') → r [x] H Q) {σ : L2.St} {H : Hp} {Q : VK} (h : liftE X.K (rOne dc ra) σ H Q) : tCB r (tCons (liftP X.K ra) tNil) σ H Q := by
  obtain ⟨g, s, HF, R, Qd, q, k⟩ := h
  exact ⟨g, s, HF, R, _, q, fun d s1 v HF1 H1 q1 B1 r1 => hd g s1 HF1 σ H1 v d _ Q B1.1 r1 q1 fun d2 v2 HF2 H2 q2 B2 r2 => k d2 s1 v2 HF2 H2 q2 (B1.step B2) r2⟩
theorem oneF_w {r : List V → Hp → VK → Prop} {dc : D → (List D → Prop) → Prop} (hd : ∀ (g : Hp) (s : S) (HF : Hp) (σ : L2.St) (H : Hp) (x : V) (d : D) (Qd : List D → Prop) (Q : VK), Rel X.K g s HF σ H → RpT X.K HF H x d → dc d Qd →
    (∀ ds vs p, Qd ds → Rps X.K HF vs ds → H p = none → Q (.ref p) (upd H p (.lst vs))) → r [x] H Q) {σ : L2.St} {H : Hp} {Q : VK} (h : liftF X.K (rOneF dc ra) σ H Q) : tCB r (tCons (liftP X.K ra) tNil) σ H Q := by
  obtain ⟨g, s, HF, R, Qd, q, k⟩ := h
  exact ⟨g, s, HF, R, _, q, fun d s1 v HF1 H1 q1 B1 r1 => hd g s1 HF1 σ H1 v d _ Q B1.1 r1 q1 fun ds vs p q2 r2 hp => k ds s1 vs HF1 H1 p q2 B1 r2 hp⟩
theorem de_call1 {dc : DO1} (hc : Does1 X (.builtin id) dc) (hg : Gl X x) (hm : X.mg x = none) (hv : bootBuiltins x = some (.builtin id)) (ha : DP X e ra) (hn : x ≠ "__name__" := by decide) (hdb : (x == ("__debug__" : Str)) = false := by decide)
    (he : starEach [e] X.env = (false, eval e X.env) :: starEach [] X.env := by rfl) (hpl : (backTo pos (starEach [] X.env)).any (·.1) = false := by rfl) : DE X (.Call (.Name x p) [e] [] pos) (rOne dc ra) := by
  obtain ⟨r, h1, h2⟩ := hc
  exact ⟨PEweak (pe_callB h1 hg hm hv (pa_cons ha.pe pa_nil he) hn hdb he hpl) fun σ H Q h => one_w h2 h⟩
theorem de_callT1 {dc : DO1} (hc : Does1 X (.type T) dc) (hg : Gl X x) (hm : X.mg x = none) (hv : bootBuiltins x = some (.type T)) (ha : DP X e ra) (hn : x ≠ "__name__" := by decide) (hdb : (x == ("__debug__" : Str)) = false := by decide)
    (he : starEach [e] X.env = (false, eval e X.env) :: starEach [] X.env := by rfl) (hpl : (backTo pos (starEach [] X.env)).any (·.1) = false := by rfl) : DE X (.Call (.Name x p) [e] [] pos) (rOne dc ra) := by
  obtain ⟨r, h1, h2⟩ := hc
  exact ⟨PEweak (pe_callTy h1 hg hm hv (pa_cons ha.pe pa_nil he) hn hdb he hpl) fun σ H Q h => one_w h2 h⟩
theorem df_call1 {dc : D → (List D → Prop) → Prop} (hc : DoesF X (.builtin id) dc) (hg : Gl X x) (hm : X.mg x = none) (hv : bootBuiltins x = some (.builtin id)) (ha : DP X e ra) (hn : x ≠ "__name__" := by decide) (hdb : (x == ("__debug__" : Str)) = false := by decide)
    (he : starEach [e] X.env = (false, eval e X.env) :: starEach [] X.env := by rfl) (hpl : (backTo pos (starEach [] X.env)).any (·.1) = false := by rfl) : DF X (.Call (.Name x p) [e] [] pos) (rOneF dc ra) := by
  obtain ⟨r, h1, h2⟩ := hc
  exact ⟨PEweak (pe_callB h1 hg hm hv (pa_cons ha.pe pa_nil he) hn hdb he hpl) fun σ H Q h => oneF_w h2 h⟩
theorem df_callT1 {dc : D → (List D → Prop) → Prop} (hc : DoesF X (.type T) dc) (hg : Gl X x) (hm : X.mg x = none) (hv : bootBuiltins x = some (.type T)) (ha : DP X e ra) (hn : x ≠ "__name__" := by decide) (hdb : (x == ("__debug__" : Str)) = false := by decide)
    (he : starEach [e] X.env = (false, eval e X.env) :: starEach [] X.env := by rfl) (hpl : (backTo pos (starEach [] X.env)).any (·.1) = false := by rfl) : DF X (.Call (.Name x p) [e] [] pos) (rOneF dc ra) := by
  obtain ⟨r, h1, h2⟩ := hc
  exact ⟨PEweak (pe_callTy h1 hg hm hv (pa_cons ha.pe pa_nil he) hn hdb he hpl) fun σ H Q h => oneF_w h2 h⟩

/-- a list or tuple, its items -/
def itemsD : D → Option (List D)
  | .lst ds => some ds
  | .tup ds => some ds
  | .scr ns => some (ns.map D.int)
  | _ => none
theorem items_sq {K : PySem.W.Frag} {HF H : Hp} {v : V} {d : D} {ds : List D} (hs : Same HF H) (r : RpT K HF H v d) (h : itemsD d = some ds) : ∃ p vs, v = .ref p ∧ (SqL K H p vs ∨ SqT K H p vs) ∧ Rps K HF vs ds := by
  rcases r with r | ⟨p, vs, es, rfl, rfl, h1, r⟩
  · cases r with
    | lst h1 r =>
      cases h
      exact ⟨_, _, rfl, .inl (SqL.of (hs _ _ h1)), r⟩
    | tup h1 r =>
      cases h
      exact ⟨_, _, rfl, .inr (Same.seqT hs h1), r⟩
    | @scr p ns h1 =>
      cases h
      exact ⟨_, _, rfl, .inl (hs.seq h1), Rps.ints ns⟩
    | _ => cases h
  · cases h
    exact ⟨p, vs, rfl, .inl (SqL.of h1), r⟩
def lenD : D → Option Nat
  | .str x => some x.length
  | d => (itemsD d).map List.length
def dLen : DO1 := fun d Q => match d with
  | .str x => x.length ≤ sizeLine ∧ Q (.int (x.length : Nat))
  | _ => ∃ ds, itemsD d = some ds ∧ Q (.int (ds.length : Nat))
theorem does_len : Does1 X (.builtin "len") dLen := by
  refine ⟨_, call_len_seq.or call_len_str, fun g s HF σ H x d Qd Q R r h k => ?_⟩
  unfold dLen at h
  split at h
  · rcases r with r | ⟨_, _, _, _, z, _⟩
    · cases r
      exact .inr ⟨_, rfl, h.1, k _ _ HF H h.2 (.rfl' R) (.int _)⟩
    · cases z
  · obtain ⟨ds, e, h⟩ := h
    obtain ⟨p, vs, rfl, hq, r2⟩ := items_sq R.same r e
    exact .inl ⟨p, vs, rfl, hq, by rw [r2.length]; exact k _ _ HF H h (.rfl' R) (.int _)⟩
def dAbs : DO1
  | .int i, Q => Q (.int (if i < 0 then -i else i))
  | _, _ => False
theorem rpt_int {K : PySem.W.Frag} {HF H : Hp} {v : V} {i : Int} (r : RpT K HF H v (.int i)) : v = .int i := by
  rcases r with r | ⟨_, _, _, _, z, _⟩
  · cases r
    rfl
  · cases z
theorem rpt_bl {K : PySem.W.Frag} {HF H : Hp} {v : V} {i : Bool} (r : RpT K HF H v (.bl i)) : v = .bl i := by
  rcases r with r | ⟨_, _, _, _, z, _⟩
  · cases r
    rfl
  · cases z
theorem does_abs : Does1 X (.builtin "abs") dAbs := by
  refine ⟨_, call_abs, fun g s HF σ H x d Qd Q R r h k => ?_⟩
  unfold dAbs at h
  split at h
  · rw [rpt_int r]
    exact ⟨_, rfl, k _ _ HF H h (.rfl' R) (.int _)⟩
  · exact h.elim
def dInt : DO1
  | .int i, Q => Q (.int i)
  | .bl b, Q => Q (.int (if b then 1 else 0))
  | _, _ => False
theorem does_int : Does1 X (.type "int") dInt := by
  refine ⟨_, call_int1, fun g s HF σ H x d Qd Q R r h k => ?_⟩
  unfold dInt at h
  split at h
  · rw [rpt_int r]
    exact .inl ⟨_, rfl, k _ _ HF H h (.rfl' R) (.int _)⟩
  · rw [rpt_bl r]
    exact .inr ⟨_, rfl, k _ _ HF H h (.rfl' R) (.int _)⟩
  · exact h.elim
/-- a list whose items are all ints, all bools -/
theorem Rps.of_bls {K : PySem.W.Frag} {H : Hp} : ∀ {vs : List V} {bs : List Bool}, Rps K H vs (bs.map D.bl) → vs = bs.map V.bl
  | _, [], h => by cases h; rfl
  | _, n :: r, h => by
    cases h with
    | cons h1 h2 =>
      cases h1
      rw [Rps.of_bls (bs := r) h2]
      rfl
theorem lst_sq {K : PySem.W.Frag} {HF H : Hp} {v : V} {ds : List D} (hs : Same HF H) (r : RpT K HF H v (.lst ds)) : ∃ p vs, v = .ref p ∧ H p = some (.lst vs) ∧ Rps K HF vs ds := by
  rcases r with r | ⟨p, vs, es, rfl, e, h1, r⟩
  · cases r with
    | lst h1 r => exact ⟨_, _, rfl, hs _ _ h1, r⟩
  · cases e
    exact ⟨p, vs, rfl, h1, r⟩
def dAll : DO1
  | .lst ds, Q => ∃ bs : List Bool, ds = bs.map D.bl ∧ Q (.bl (bs.all fun b => b))
  | _, _ => False
def dAny : DO1
  | .lst ds, Q => ∃ bs : List Bool, ds = bs.map D.bl ∧ Q (.bl (bs.any fun b => b))
  | _, _ => False
theorem does_all (hc : X.calm = true) : Does1 X (.builtin "all") dAll := by
  refine ⟨_, cr_all hc, fun g s HF σ H x d Qd Q R r h k => ?_⟩
  unfold dAll at h
  split at h
  · obtain ⟨bs, rfl, h⟩ := h
    obtain ⟨p, vs, rfl, h1, r2⟩ := lst_sq R.same r
    rw [r2.of_bls] at h1
    exact ⟨p, bs, rfl, SqL.of h1, k _ _ HF H h (.rfl' R) (.bl _)⟩
  · exact h.elim
theorem does_any (hc : X.calm = true) : Does1 X (.builtin "any") dAny := by
  refine ⟨_, cr_any hc, fun g s HF σ H x d Qd Q R r h k => ?_⟩
  unfold dAny at h
  split at h
  · obtain ⟨bs, rfl, h⟩ := h
    obtain ⟨p, vs, rfl, h1, r2⟩ := lst_sq R.same r
    rw [r2.of_bls] at h1
    exact ⟨p, bs, rfl, SqL.of h1, k _ _ HF H h (.rfl' R) (.bl _)⟩
  · exact h.elim
/-- sum of ints in a tuple -/
theorem call_sumT (hc : X.calm = true) : CallR X (.builtin "sum") (fun vs H Q => ∃ (a : Addr) (ns : List Int), vs = [V.ref a] ∧ SqT X.K H a (ns.map V.int) ∧ Q (.int ns.sum) H) := by
  intro pins s σ H vs us Q I r h
  obtain ⟨a, ns, rfl, hs, q⟩ := h
  obtain ⟨u, rfl, rv⟩ := vals1 r
  cases rv
  obtain ⟨its, r2, ht, hz⟩ := I.tuple hs
  have hh : X.A.handled = none := I.ok.hd hc
  have hl : its.length = ns.length := by
    have e := r2.length
    rw [List.length_map] at e
    exact e.symm
  have ne : a ≠ s.heap.objs.size := Nat.ne_of_lt ht.lt
  refine PySem.call_sum_walkG (wpAny_pyIter_tuple (show s.heap.IsTuple a its.toArray from ht) ?_)
  refine ⟨s.heap.objs.size, _, _, _, _, _, (fun i => ns.getD i 0), rfl, Walks.tuple (A := X.A.in1) hh _ a ne its.toArray, ⟨⟨_, Heap.get?_push_size _ rfl, rfl, rfl⟩, Heap.IsTuple.push (show s.heap.IsTuple a its.toArray from ht) _⟩, ?_, ?_, ?_⟩
  · intro b hb
    rw [Heap.size_push]
    rcases List.mem_cons.mp hb with z | z
    · rw [z]
      exact Nat.lt_succ_self _
    · have z : b = a := by simpa using z
      rw [z]
      exact Nat.lt_succ_of_lt ht.lt
  · intro i v hv
    have hv : its[i]? = some v := by simpa using hv
    have hi : i < ns.length := by
      rw [← hl]
      exact (List.getElem?_eq_some_iff.mp hv).1
    obtain ⟨u, h1, h2⟩ := r2.get (i := i) (x := V.int (ns.getD i 0)) (by simp [hi])
    rw [hv] at h1
    cases h1
    exact h2
  · intro h' tk t' hk
    refine ⟨.int ns.sum, H, I.kept fun b o e => hk b o ?_ (Heap.get?_push_of_some _ e), ⟨t', ?_⟩, q⟩
    · intro z
      have z : b = s.heap.objs.size := by simpa using z
      have w := Heap.lt_size e
      rw [z] at w
      exact Nat.lt_irrefl _ w
    · rw [List.size_toArray, hl, PyProof.Rows.preSum_getD, List.take_length]
def dSum : DO1 := fun d Q => ∃ ns : List Int, itemsD d = some (ns.map D.int) ∧ Q (.int ns.sum)
theorem does_sum (hc : X.calm = true) : Does1 X (.builtin "sum") dSum := by
  refine ⟨_, (cr_sum hc).or (call_sumT hc), fun g s HF σ H x d Qd Q R r h k => ?_⟩
  obtain ⟨ns, e, h⟩ := h
  obtain ⟨p, vs, rfl, hq, r2⟩ := items_sq R.same r e
  rw [r2.of_ints] at hq
  rcases hq with hq | hq
  · exact .inl ⟨p, ns, rfl, hq, k _ _ HF H h (.rfl' R) (.int _)⟩
  · exact .inr ⟨p, ns, rfl, hq, k _ _ HF H h (.rfl' R) (.int _)⟩
def dMax : DO1
  | .lst ds, Q => ∃ ns : List Int, ds = ns.map D.int ∧ 0 < ns.length ∧ ∀ m, m ∈ ns → (∀ y, y ∈ ns → y ≤ m) → Q (.int m)
  | _, _ => False
def dMin : DO1
  | .lst ds, Q => ∃ ns : List Int, ds = ns.map D.int ∧ 0 < ns.length ∧ ∀ m, m ∈ ns → (∀ y, y ∈ ns → m ≤ y) → Q (.int m)
  | _, _ => False
theorem does_max (hc : X.calm = true) : Does1 X (.builtin "max") dMax := by
  refine ⟨_, cr_max hc, fun g s HF σ H x d Qd Q R r h k => ?_⟩
  unfold dMax at h
  split at h
  · obtain ⟨ns, rfl, h0, h⟩ := h
    obtain ⟨p, vs, rfl, h1, r2⟩ := lst_sq R.same r
    rw [r2.of_ints] at h1
    exact ⟨p, ns, rfl, SqL.of h1, h0, fun m hm hl => k _ _ HF H (h m hm hl) (.rfl' R) (.int _)⟩
  · exact h.elim
theorem does_min (hc : X.calm = true) : Does1 X (.builtin "min") dMin := by
  refine ⟨_, cr_min hc, fun g s HF σ H x d Qd Q R r h k => ?_⟩
  unfold dMin at h
  split at h
  · obtain ⟨ns, rfl, h0, h⟩ := h
    obtain ⟨p, vs, rfl, h1, r2⟩ := lst_sq R.same r
    rw [r2.of_ints] at h1
    exact ⟨p, ns, rfl, SqL.of h1, h0, fun m hm hl => k _ _ HF H (h m hm hl) (.rfl' R) (.int _)⟩
  · exact h.elim
/-- tuple(x) -/
def dTuple : DO1 := fun d Q => ∃ ds, itemsD d = some ds ∧ Q (.tup ds)
theorem does_tuple : Does1 X (.type "tuple") dTuple := by
  refine ⟨_, call_tuple_of, fun g s HF σ H x d Qd Q R r h k => ?_⟩
  obtain ⟨ds, e, h⟩ := h
  have key : ∀ (p : Addr) (vs : List V), SqL X.K H p vs → Rps X.K HF vs ds → x = .ref p → ∃ p' ys, [x] = [V.ref p'] ∧ ((SqL X.K H p' ys ∧ ∀ l, H l = none → Q (.ref l) (upd H l (.tup ys))) ∨ (SqT X.K H p' ys ∧ Q (.ref p') H)) := fun p vs hq r2 ex => by
    subst ex
    exact ⟨p, vs, rfl, .inl ⟨hq, fun l hl => k _ _ _ _ h (frz2 R hl _) (.tup (SqT.of upd_same) (r2.mono (same_upd (R.freshF hl))))⟩⟩
  rcases r with r | ⟨p, vs, es, ex, ez, h1, r2⟩
  · cases r with
    | lst h1 r2 =>
      cases e
      exact key _ _ (SqL.of (R.same _ _ h1)) r2 rfl
    | tup h1 r2 =>
      cases e
      exact ⟨_, _, rfl, .inr ⟨Same.seqT R.same h1, k _ _ HF H h (.rfl' R) (.tup h1 r2)⟩⟩
    | @scr p ns h1 =>
      cases e
      exact key _ _ (R.same.seq h1) (Rps.ints ns) rfl
    | _ => cases e
  · subst ez
    cases e
    exact key p vs (SqL.of h1) r2 ex
/-- list(x) -/
def dList : D → (List D → Prop) → Prop := fun d Q => ∃ ds, itemsD d = some ds ∧ Q ds
theorem does_list : DoesF X (.type "list") dList := by
  refine ⟨_, call_list_of, fun g s HF σ H x d Qd Q R r h k => ?_⟩
  obtain ⟨ds, e, h⟩ := h
  obtain ⟨p, vs, rfl, hq, r2⟩ := items_sq R.same r e
  exact ⟨p, vs, rfl, hq, fun l hl => k ds vs l h r2 hl⟩
def dRepr : DO1 := fun d Q => d.ok 60 = true ∧ d.shw = true ∧ d.sz ≤ 16000000 ∧ Q (.str (rep d))
theorem rpt_dp {K : PySem.W.Frag} {HF H : Hp} {v : V} {d : D} (hs : Same HF H) (r : RpT K HF H v d) (h : d.ok 60 = true) : Dp K H v d.py := by
  rcases r with r | ⟨p, vs, es, rfl, rfl, h1, r⟩
  · exact r.dp hs d 60 h
  · exact .lst (SqL.of h1) (Rps.dp hs es 59 r h)
theorem does_repr (hg : X.A.guards = some []) (hu : X.A.units + 100 < cLine) : Does1 X (.builtin "repr") dRepr := by
  refine ⟨_, call_reprD hg hu, fun g s HF σ H x d Qd Q R r h k => ?_⟩
  obtain ⟨h1, h2, h3, h⟩ := h
  obtain ⟨w1, w2⟩ := showable_ok d 60 h1 h2
  have z := shown_sz d 60 h1 h2
  exact ⟨x, d.py, rfl, rpt_dp R.same r h1, w1, w2, Nat.le_trans (lay_ok d 60 h1).2 (by decide), Nat.le_trans z (Nat.le_trans h3 (by rw [sizeLine_eq]; decide)), k _ _ HF H h (.rfl' R) (.str _)⟩
end
end DL

/-! part DLe -/
namespace DL
open PySem PySem.Spec PyProof.Rows L2

/-! ### items and parts -/
theorem Rps.ixI {K : PySem.W.Frag} {H : Hp} {vs : List V} {ds : List D} {i : Int} {d : D} (r : Rps K H vs ds) (h : atI ds i = some d) : ∃ v, atI vs i = some v ∧ Rp K H v d := by
  unfold atI at h ⊢
  rw [r.length]
  cases e : ixN ds.length i with
  | none => rw [e] at h; cases h
  | some j =>
    rw [e] at h
    obtain ⟨v, h1, h2⟩ := r.get (i := j) h
    exact ⟨v, h1, h2⟩
def dIx : DO2
  | .tup ds, .int i, Q => ∃ d, atI ds i = some d ∧ Q d
  | .lst ds, .int i, Q => ∃ d, atI ds i = some d ∧ Q d
  | .scr ns, .int i, Q => ∃ d, atI (ns.map D.int) i = some d ∧ Q d
  | _, _, _ => False
/-- an index at a list or tuple -/
theorem ix_ok {X : Cx} {g : Hp} {s : S} {HF : Hp} {σ : L2.St} {H : Hp} {x y : V} {d1 d2 : D} {Qd : D → Prop} {Q : VK} (R : Rel X.K g s HF σ H) (r1 : RpT X.K HF H x d1) (r2 : Rp X.K HF y d2) (h : dIx d1 d2 Qd)
    (q : ∀ d v HF' H', Qd d → Beh X.K g HF σ s HF' H' → Rp X.K HF' v d → Q v H') : rIxL X.K x y H Q ∨ rIxT X.K x y H Q := by
  have key : ∀ (ds : List D) (i : Int) (d : D), itemsD d1 = some ds → y = .int i → atI ds i = some d → Qd d → rIxL X.K x y H Q ∨ rIxT X.K x y H Q := fun ds i d e ey ha hq => by
    obtain ⟨p, vs, rfl, hs, rr⟩ := items_sq R.same r1 e
    obtain ⟨v, h1, h2⟩ := rr.ixI ha
    subst ey
    rcases hs with hs | hs
    · exact .inl ⟨p, vs, i, v, rfl, rfl, hs, h1, q d v HF H hq (.rfl' R) h2⟩
    · exact .inr ⟨p, vs, i, v, rfl, rfl, hs, h1, q d v HF H hq (.rfl' R) h2⟩
  unfold dIx at h
  split at h
  · cases r2
    obtain ⟨d, ha, hq⟩ := h
    exact key _ _ d rfl rfl ha hq
  · cases r2
    obtain ⟨d, ha, hq⟩ := h
    exact key _ _ d rfl rfl ha hq
  · cases r2
    obtain ⟨d, ha, hq⟩ := h
    exact key _ _ d rfl rfl ha hq
  · exact h.elim
abbrev RO := S → (Option Int → S → Prop) → Prop
def liftO (K : PySem.W.Frag) (r : RO) : TO := fun σ H Q => ∃ g s HF, Rel K g s HF σ H ∧ ∃ Qd : Option Int → S → Prop, r s Qd ∧ ∀ o s' HF' H', Qd o s' → Beh K g HF σ s' HF' H' → Q o H'
structure DO (X : Cx) (e : Option Expr) (r : RO) : Prop where
  po : PO X e (liftO X.K r)
theorem POweak {X : Cx} {e : Option Expr} {t t' : TO} (h : PO X e t) (w : ∀ σ H Q, t' σ H Q → t σ H Q) : PO X e t' := ⟨fun pins s σ H Q I q => h.run pins s σ H Q I (w σ H Q q)⟩
def rONone : RO := fun s Q => Q none s
def rOSome (ra : RE) : RO := fun s Q => ra s fun d s1 => ∃ i, d = .int i ∧ Q (some i) s1
def cut {α : Type} (xs : List α) (lo hi : Option Int) : List α := (xs.drop (HT.sIx xs.length 0 lo)).take (HT.sIx xs.length xs.length hi - HT.sIx xs.length 0 lo)
theorem Rps.cut {K : PySem.W.Frag} {H : Hp} {vs : List V} {ds : List D} (r : Rps K H vs ds) (lo hi : Option Int) : Rps K H (cutV vs lo hi) (DL.cut ds lo hi) := by
  unfold cutV DL.cut
  rw [r.length]
  exact (r.drop _).take _
def rSl (dc : D → Option Int → Option Int → (D → Prop) → Prop) (ra : RE) (rl rh : RO) : RE := fun s Q => ra s fun d s1 => rl s1 fun l s2 => rh s2 fun h s3 => dc d l h fun d' => Q d' s3
def dSl : D → Option Int → Option Int → (D → Prop) → Prop := fun d lo hi Q => match d with
  | .tup ds => Q (.tup (cut ds lo hi))
  | .lst ds => Q (.lst (cut ds lo hi))
  | .scr ns => Q (.lst (cut (ns.map D.int) lo hi))
  | _ => False
def rSlF (ra : RE) (rl rh : RO) : RA := fun s Q => ra s fun d s1 => rl s1 fun l s2 => rh s2 fun h s3 => (match d with
  | .lst ds => Q (cut ds l h) s3
  | .scr ns => Q (cut (ns.map D.int) l h) s3
  | _ => False)
section
variable {X : Cx} {a b e : Expr} {ra rb : RE} {pos p2 : Pos} {lo hi : Option Expr} {rl rh : RO}
theorem de_ix (ha : DE X a ra) (hb : DE X b rb) (hs : PlainIx b) : DE X (.Subscript a b pos) (rBin dIx ra rb) := by
  refine ⟨PEweak (pe_ix (ix_list.or ix_tup) ha.pe hb.pe hs) fun σ H Q h => bin_w (r2 := fun x y H Q => rIxL X.K x y H Q ∨ rIxT X.K x y H Q) (fun g s HF σ H x y d1 d2 Qd Q R r1 r2 h q => ix_ok R (.inl r1) r2 h q) h⟩
/-- name[e]: the name is looked at behind e -/
def rIxN (i : Nat) (rb : RE) : RE := fun s Q => rPeek i s fun _ _ => rb s fun d s1 => rPeek i s1 fun d0 s2 => dIx d0 d fun d' => Q d' s2
theorem peek_at {K : PySem.W.Frag} {g : Hp} {s : S} {HF : Hp} {σ : L2.St} {H : Hp} {i : Nat} {Qd : D → S → Prop} (R : Rel K g s HF σ H) (h : rPeek i s Qd) : ∃ v d, σ[i]? = some (some v) ∧ RpT K HF H v d ∧ Qd d s := by
  obtain ⟨d, hd, q⟩ := h
  obtain ⟨v, h1, h2⟩ := peek_ok R hd
  exact ⟨v, d, h1, h2, q⟩
theorem de_ixN {i : Nat} (ha : PE X a (tVar i)) (hb : DE X b rb) (hs : PlainIx b) : DE X (.Subscript a b pos) (rIxN i rb) := by
  refine ⟨PEweak (pe_ix (ix_list.or ix_tup) ha hb.pe hs) fun σ H Q ⟨g, s, HF, R, Qd, q, k⟩ => ?_⟩
  obtain ⟨v, _, hv, _, q⟩ := peek_at R q
  refine ⟨v, hv, g, s, HF, R, _, q, fun d s1 y HF1 H1 q1 B1 r1 => ?_⟩
  obtain ⟨w, d0, hw, rt, q2⟩ := peek_at B1.1 q1
  rw [hv] at hw
  cases hw
  exact ix_ok B1.1 rt r1 q2 fun d' w HF2 H2 q3 B2 r2 => k d' s1 w HF2 H2 q3 (B1.step B2) r2
theorem do_none : DO X none rONone := ⟨POweak po_none fun σ H Q ⟨g, s, HF, R, Qd, q, k⟩ => k none s HF H q (.rfl' R)⟩
theorem do_some (ha : DE X a ra) : DO X (some a) (rOSome ra) := by
  refine ⟨POweak (po_some ha.pe) fun σ H Q ⟨g, s, HF, R, Qd, q, k⟩ => ?_⟩
  refine ⟨g, s, HF, R, _, q, fun d s1 v HF1 H1 q1 B1 r1 => ?_⟩
  obtain ⟨i, rfl, q2⟩ := q1
  cases r1
  exact ⟨i, rfl, k _ s1 HF1 H1 q2 B1⟩
theorem cut_whole {α : Type} {xs : List α} {lo hi : Option Int} (h : HT.sIx xs.length 0 lo = 0 ∧ HT.sIx xs.length xs.length hi = xs.length) : cut xs lo hi = xs := by
  unfold cut
  rw [h.1, h.2]
  simp
theorem sl_ok {g : Hp} {s : S} {HF : Hp} {σ : L2.St} {H : Hp} {x : V} {d : D} {lo hi : Option Int} {Qd : D → Prop} {Q : VK} (R : Rel X.K g s HF σ H) (r : RpT X.K HF H x d) (h : dSl d lo hi Qd)
    (q : ∀ d v HF' H', Qd d → Beh X.K g HF σ s HF' H' → Rp X.K HF' v d → Q v H') : rSlL X.K x lo hi H Q ∨ rSlA X.K x lo hi H Q := by
  have key : ∀ (ds : List D) (p : Addr) (vs : List V), SqL X.K H p vs → Rps X.K HF vs ds → x = .ref p → Qd (.lst (cut ds lo hi)) → rSlL X.K x lo hi H Q ∨ rSlA X.K x lo hi H Q := fun ds p vs hs rr ex hq => by
    subst ex
    exact .inl ⟨p, vs, rfl, hs, fun l hl => q _ _ _ _ hq (frz2 R hl _) (.lst upd_same ((rr.cut lo hi).mono (same_upd (R.freshF hl))))⟩
  unfold dSl at h
  split at h
  · rcases r with r | ⟨_, _, _, _, z, _⟩
    · cases r with
      | @tup p vs ds h1 r1 =>
        refine .inr ⟨p, vs, rfl, Same.seqT R.same h1, fun w => ?_, fun w l hl => ?_⟩
        · refine q _ _ HF H h (.rfl' R) ?_
          rw [cut_whole (by rw [← r1.length]; exact w)]
          exact .tup h1 r1
        · exact q _ _ _ _ h (frz2 R hl _) (.tup (SqT.of upd_same) ((r1.cut lo hi).mono (same_upd (R.freshF hl))))
    · cases z
  · obtain ⟨p, vs, ex, h1, r1⟩ := lst_sq R.same r
    exact key _ p vs (SqL.of h1) r1 ex h
  · obtain ⟨p, vs, ex, hs, r1⟩ := items_sq R.same r rfl
    rcases r with r | ⟨_, _, _, _, z, _⟩
    · cases r with
      | @scr p' _ h1 => exact key _ p' _ (R.same.seq h1) (Rps.ints _) rfl h
    · cases z
  · exact h.elim
theorem de_sl (ha : DE X a ra) (hl : DO X lo rl) (hh : DO X hi rh) : DE X (.Subscript a (.Slice lo hi none p2) pos) (rSl dSl ra rl rh) := by
  refine ⟨PEweak (pe_slice (sl_list.or sl_tupA) ha.pe hl.po hh.po) fun σ H Q ⟨g, s, HF, R, Qd, q, k⟩ => ?_⟩
  refine ⟨g, s, HF, R, _, q, fun d s1 v HF1 H1 q1 B1 r1 => ⟨g, s1, HF1, B1.1, _, q1, fun l s2 HF2 H2 q2 B2 => ⟨g, s2, HF2, B2.1, _, q2, fun h s3 HF3 H3 q3 B3 => ?_⟩⟩⟩
  exact sl_ok B3.1 (.inl ((r1.mono B2.2).mono B3.2)) q3 fun d' w HF4 H4 q4 B4 r4 => k d' s3 w HF4 H4 q4 (((B1.step B2).step B3).step B4) r4
def rSlN (i : Nat) (rl rh : RO) : RE := fun s Q => rPeek i s fun _ _ => rl s fun l s2 => rh s2 fun h s3 => rPeek i s3 fun d s4 => dSl d l h fun d' => Q d' s4
theorem de_slN {i : Nat} (ha : PE X a (tVar i)) (hl : DO X lo rl) (hh : DO X hi rh) : DE X (.Subscript a (.Slice lo hi none p2) pos) (rSlN i rl rh) := by
  refine ⟨PEweak (pe_slice (sl_list.or sl_tupA) ha hl.po hh.po) fun σ H Q ⟨g, s, HF, R, Qd, q, k⟩ => ?_⟩
  obtain ⟨v, _, hv, _, q⟩ := peek_at R q
  refine ⟨v, hv, g, s, HF, R, _, q, fun l s2 HF2 H2 q2 B2 => ⟨g, s2, HF2, B2.1, _, q2, fun h s3 HF3 H3 q3 B3 => ?_⟩⟩
  obtain ⟨w, d0, hw, rt, q4⟩ := peek_at B3.1 q3
  rw [hv] at hw
  cases hw
  exact sl_ok B3.1 rt q4 fun d' w HF4 H4 q4 B4 r4 => k d' s3 w HF4 H4 q4 ((B2.step B3).step B4) r4
/-- xs[::-1], a new list -/
def dRev : D → (List D → Prop) → Prop
  | .lst ds, Q => Q ds.reverse
  | .scr ns, Q => Q (ns.map D.int).reverse
  | _, _ => False
def rRevF (ra : RE) : RA := fun s Q => ra s fun d s1 => dRev d fun ds => Q ds s1
theorem df_rev {k : Nat} {p1 p2 p3 : Pos} (ha : DP X a ra) : DF X (.Subscript a (.Slice none none (some (.UnaryOp .USub (.Constant (.int 1) k p1) p2)) p3) pos) (rRevF ra) := by
  refine ⟨PEweak (pe_revL ha.pe) fun σ H Q ⟨g, s, HF, R, Qd, q, k⟩ => ?_⟩
  refine ⟨g, s, HF, R, _, q, fun d s1 v HF1 H1 q1 B1 r1 => ?_⟩
  unfold dRev at q1
  split at q1
  · obtain ⟨p, vs, rfl, h1, r2⟩ := lst_sq B1.1.same r1
    exact ⟨p, vs, rfl, SqL.of h1, fun l hl => k _ s1 _ HF1 H1 l q1 B1 r2.reverse hl⟩
  · rcases r1 with r1 | ⟨_, _, _, _, z, _⟩
    · cases r1 with
      | @scr p' _ h1 => exact ⟨p', _, rfl, B1.1.same.seq h1, fun l hl => k _ s1 _ HF1 H1 l q1 B1 (Rps.ints _).reverse hl⟩
    · cases z
  · exact q1.elim
/-- list + list, list * n: new lists -/
def rCatF (ra rb : RE) : RA := fun s Q => ra s fun d1 s1 => rb s1 fun d2 s2 => ∃ xs ys, d1 = .lst xs ∧ d2 = .lst ys ∧ xs.length + ys.length ≤ sizeLine ∧ Q (xs ++ ys) s2
theorem df_cat (ha : DE X a ra) (hb : DE X b rb) : DF X (.BinOp a .Add b pos) (rCatF ra rb) := by
  refine ⟨PEweak (pe_op op_cat ha.pe hb.pe) fun σ H Q ⟨g, s, HF, R, Qd, q, k⟩ => ?_⟩
  refine ⟨g, s, HF, R, _, q, fun d s1 v HF1 H1 q1 B1 r1 => ⟨g, s1, HF1, B1.1, _, q1, fun d2 s2 w HF2 H2 q2 B2 r2 => ?_⟩⟩
  obtain ⟨xs, ys, rfl, rfl, z, q2⟩ := q2
  cases r1 with
  | @lst p vs ds h1 r1 =>
    cases r2 with
    | @lst p2 ws es h2 r2 =>
      exact ⟨p, p2, vs, ws, rfl, rfl, (B1.step B2).1.same _ _ (B2.2 _ _ h1), B2.1.same _ _ h2, by rw [r1.length, r2.length]; exact z, fun l hl => k _ s2 _ HF2 H2 l q2 (B1.step B2) ((r1.mono B2.2).append r2) hl⟩
def rRepF (ra rb : RE) : RA := fun s Q => ra s fun d1 s1 => rb s1 fun d2 s2 => ∃ xs k, d1 = .lst xs ∧ d2 = .int k ∧ (-(2 ^ 63) ≤ k ∧ k < 2 ^ 63 ∧ xs.length * k.toNat ≤ sizeLine) ∧ Q (List.replicate k.toNat xs).flatten s2
theorem df_rep (ha : DE X a ra) (hb : DE X b rb) : DF X (.BinOp a .Mult b pos) (rRepF ra rb) := by
  refine ⟨PEweak (pe_op op_rep ha.pe hb.pe) fun σ H Q ⟨g, s, HF, R, Qd, q, k⟩ => ?_⟩
  refine ⟨g, s, HF, R, _, q, fun d s1 v HF1 H1 q1 B1 r1 => ⟨g, s1, HF1, B1.1, _, q1, fun d2 s2 w HF2 H2 q2 B2 r2 => ?_⟩⟩
  obtain ⟨xs, n, rfl, rfl, ⟨z1, z2, z3⟩, q2⟩ := q2
  cases r2
  cases r1 with
  | @lst p vs ds h1 r1 => exact ⟨p, n, vs, rfl, rfl, (B1.step B2).1.same _ _ (B2.2 _ _ h1), z1, z2, by rw [r1.length]; exact z3, fun l hl => k _ s2 _ HF2 H2 l q2 (B1.step B2) (rep_rps (r1.mono B2.2) _) hl⟩
/-- -x -/
def rNeg (ra : RE) : RE := fun s Q => ra s fun d s1 => ∃ i, d = .int i ∧ Q (.int (-i)) s1
theorem de_neg (ha : DE X a ra) : DE X (.UnaryOp .USub a pos) (rNeg ra) := by
  refine ⟨PEweak (pe_un un_neg ha.pe) fun σ H Q ⟨g, s, HF, R, Qd, q, k⟩ => ?_⟩
  refine ⟨g, s, HF, R, _, q, fun d s1 v HF1 H1 q1 B1 r1 => ?_⟩
  obtain ⟨i, rfl, q2⟩ := q1
  cases r1
  exact ⟨i, rfl, k _ s1 _ HF1 H1 q2 B1 (.int _)⟩
/-- isinstance(x, T), T a built-in class -/
def tyD : D → Option String
  | .non => some "NoneType"
  | .bl _ => some "bool"
  | .int _ => some "int"
  | .str _ => some "str"
  | .lst _ => some "list"
  | .tup _ => some "tuple"
  | .scr _ => some "list"
  | .hnd _ => none
def rIs (T : String) (ra : RE) : RE := fun s Q => ra s fun d s1 => ∃ t b, tyD d = some t ∧ kitB t T = some b ∧ Q (.bl b) s1
theorem sqT_ty {K : PySem.W.Frag} {H : Hp} {a : Addr} {xs : List V} (h : SqT K H a xs) : TyX K H (.ref a) (.type "tuple") := by
  rcases h with (h | ⟨o, h⟩) | ⟨o, its, n, h1, h2, _⟩
  · exact .base (.tup h)
  · exact .fTuple h
  · exact .kTuple h1 h2
theorem sqL_ty {K : PySem.W.Frag} {H : Hp} {a : Addr} {xs : List V} (h : SqL K H a xs) : TyX K H (.ref a) (.type "list") := by
  rcases h with (h | ⟨o, h⟩) | ⟨o, its, n, h1, h2, _⟩
  · exact .base (.lst h)
  · exact .base (.frz h)
  · exact .kList h1 h2
theorem tyX_of {K : PySem.W.Frag} {HF H : Hp} {v : V} {d : D} {t : String} (hs : Same HF H) (r : Rp K HF v d) (h : tyD d = some t) : TyX K H v (.type t) := by
  cases r with
  | non => cases h; exact .base .non
  | bl b => cases h; exact .base (.bl b)
  | int i => cases h; exact .base (.int i)
  | str x => cases h; exact .base (.str x)
  | lst h1 _ => cases h; exact sqL_ty (SqL.of (hs _ _ h1))
  | tup h1 _ => cases h; exact sqT_ty (Same.seqT hs h1)
  | scr h1 => cases h; exact sqL_ty (hs.seq h1)
  | hnd v => cases h
theorem de_isi {T : Str} {T' : String} {p pT : Pos} (hg : Gl X "isinstance") (hm : X.mg "isinstance" = none) (ha : DE X a ra) (hT : PE X (.Name T pT) (tC (.ty T')))
    (he : starEach [a, .Name T pT] X.env = (false, eval a X.env) :: starEach [.Name T pT] X.env := by rfl) (he2 : starEach [.Name T pT] X.env = (false, eval (.Name T pT) X.env) :: starEach [] X.env := by rfl) (hpl : (backTo pos (starEach [.Name T pT] X.env)).any (·.1) = false := by rfl) :
    DE X (.Call (.Name "isinstance" p) [a, .Name T pT] [] pos) (rIs T' ra) := by
  refine ⟨PEweak (pe_callB call_isi hg hm (by decide +kernel) (pa_cons ha.pe (pa_cons hT pa_nil he2) he) (by decide) (by decide) he hpl) fun σ H Q ⟨g, s, HF, R, Qd, q, k⟩ => ?_⟩
  refine ⟨g, s, HF, R, _, q, fun d s1 v HF1 H1 q1 B1 r1 => ?_⟩
  obtain ⟨t, b, h1, h2, q2⟩ := q1
  exact ⟨v, .ty T', .type t, .type T', b, rfl, .ty T', tyX_of B1.1.same r1 h1, kit_ty h2, k _ s1 _ HF1 H1 q2 B1 (.bl b)⟩
end
@[simp] theorem kit_int_int : kitB "int" "int" = some true := by decide +kernel
@[simp] theorem kit_bool_int : kitB "bool" "int" = some true := by decide +kernel
@[simp] theorem kit_none_int : kitB "NoneType" "int" = some false := by decide +kernel
@[simp] theorem kit_str_int : kitB "str" "int" = some false := by decide +kernel
@[simp] theorem kit_list_int : kitB "list" "int" = some false := by decide +kernel
@[simp] theorem kit_tuple_int : kitB "tuple" "int" = some false := by decide +kernel
@[simp] theorem kit_int_bool : kitB "int" "bool" = some false := by decide +kernel
@[simp] theorem kit_bool_bool : kitB "bool" "bool" = some true := by decide +kernel
@[simp] theorem kit_none_bool : kitB "NoneType" "bool" = some false := by decide +kernel
@[simp] theorem kit_str_bool : kitB "str" "bool" = some false := by decide +kernel
@[simp] theorem kit_list_bool : kitB "list" "bool" = some false := by decide +kernel
@[simp] theorem kit_tuple_bool : kitB "tuple" "bool" = some false := by decide +kernel
@[simp] theorem kit_int_tuple : kitB "int" "tuple" = some false := by decide +kernel
@[simp] theorem kit_bool_tuple : kitB "bool" "tuple" = some false := by decide +kernel
@[simp] theorem kit_none_tuple : kitB "NoneType" "tuple" = some false := by decide +kernel
@[simp] theorem kit_str_tuple : kitB "str" "tuple" = some false := by decide +kernel
@[simp] theorem kit_list_tuple : kitB "list" "tuple" = some false := by decide +kernel
@[simp] theorem kit_tuple_tuple : kitB "tuple" "tuple" = some true := by decide +kernel
end DL

/-! part DLf -/
namespace DL
open PySem PySem.Spec PyProof.Rows L2

/-! ### defs: a promise by data, called where no repr is under way -/
/-- as the layer's promise of a def, for calls that no repr surrounds -/
structure FnG (P : Program) (w : World) (K : PySem.W.Frag) (mg : Str → Option Value) (base : Heap) (CX : CXT) (k : Nat) (f : Addr) (fd : FuncData) (ps : List Str) (sp : Sp) : Prop where
  args : ∀ vs H Q E, sp vs H Q E → vs.length = ps.length
  go : ∀ (A : Around) (out : List Env) (s : Shared) (H : Hp) (ar : Args) (us : List Value) (vs : List V) (Q : VK) (E : XK),
    Room k A → A.guards = some [] → Env0 P w K mg base A out s H → BindsTo s fd ar (ps.zip us) → Vals vs us → sp vs H Q E →
      codeAny (model P w) A (.call (.ref f) ar) (CR CX out P w H s Q E) s
theorem FnG.up {P : Program} {w : World} {K : PySem.W.Frag} {mg : Str → Option Value} {base : Heap} {CX : CXT} {j k : Nat} {f : Addr} {fd : FuncData} {ps : List Str} {sp : Sp} (F : FnG P w K mg base CX j f fd ps sp) (h : j ≤ k) :
    FnG P w K mg base CX k f fd ps sp :=
  ⟨F.args, fun A out s H ar us vs Q E hr => F.go A out s H ar us vs Q E (hr.mono h)⟩
/-- a def's body, entered where no repr is under way -/
theorem fn_ofG {CX : CXT} {P : Program} {w : World} {K : PySem.W.Frag} {mg : Str → Option Value} {base : Heap} {k : Nat} {f : Addr} {nm qn : Str} {pr : Arguments} {bd : List Stmt} {sc : Scope} {dv kv dc pm cv ct oc : Value} {an od : Option Addr}
    {sl : Array (Option Value)} {N ps : List Str} {sp : Sp} (lk : K.lookup f = some ⟨oc, od, .func (PySem.W.fnOf nm qn pr bd sc dv kv dc pm an cv ct), sl⟩) (hc : PySem.W.codeIn K cv qn = true) (F : FnScope N ps sc)
    (ln : ∀ vs H Q E, sp vs H Q E → vs.length = ps.length)
    (hb : ∀ (A : Around) (out : List Env) (s : Shared) (H : Hp) (vs : List V) (Q : VK) (E : XK), Room k (A.deeper (envOfC qn sc s.heap.objs.size f cv)) → A.guards = some [] → sp vs H Q E →
      ∃ t, PSs (cxOf CX P w K mg base N qn sc f cv A out s H E) bd t ∧ t { nx := fun _ H' => Q .non H', rt := Q } (start N vs) H) :
    FnG P w K mg base CX (k + 1) f (PySem.W.fnOf nm qn pr bd sc dv kv dc pm an cv ct) ps sp := by
  constructor
  case args => exact ln
  intro A out s H ar us vs Q E hr hg e0 bt r q
  have up : ∀ b o, base.get? b = some o → s.heap.get? b = some o := fun b o e => (e0.bs b o e).1
  have kin := e0.mod.kin.keeps up
  have kinds : ∀ y ∈ ps.zip us, sc.names.lookup y.1 = some .local ∨ (sc.names.lookup y.1 = some .cell ∧ ((cellsFrom (s.heap.objs.size + 1) sc.names []).lookup y.1).isSome = true) := by
    rintro ⟨n, v⟩ hy
    exact (F.par n (List.of_mem_zip hy).1).imp (fun z => z) fun z => ⟨z, PySem.W.cellsFrom_some _ _ _ (.inl z)⟩
  refine codeAny_call_function hr.depth (kin _ _ lk) rfl F.co F.gen rfl (PySem.W.codeRec_of kin hc) (bt _ _ _ _ (wpAny_newFunctionEnv_cells F.kind kinds ?_))
  rintro env rfl s1 x
  obtain ⟨t, h1, h2⟩ := hb A out s H vs Q E (hr.deeper _) hg q
  have J := inv_start (CX := CX) (E := E) F hr.hd e0 (ln _ _ _ _ q) r x
  refine ⟨(e0.mod.nolimit.keeps up).keeps x.toInCall.keep, codeAny_func (wpAny_mono (h1.run [] s1 _ H _ J h2) ?_ fun _ _ z => z)⟩
  intro fl s' hs
  cases fl with
  | next =>
    obtain ⟨τ, H', J', z⟩ := hs
    exact ⟨V.non, H', J'.os, J'.bare, J'.base, J'.hok, rfl, z⟩
  | ret u =>
    obtain ⟨v, τ, H', J', rv, z⟩ := hs
    exact ⟨v, H', J'.os, J'.bare, J'.base, J'.hok, rv, z⟩
  | brk => exact hs.choose_spec.choose_spec.2.elim
  | cont => exact hs.choose_spec.choose_spec.2.elim

section
variable {X : Cx} {CX : CXT} {k : Nat} {f : Addr} {fd : FuncData} {ps : List Str} {sp : Sp} {E : XK} {x : Str} {p pos : Pos} {e : Expr} {es : List Expr} {t tk : TA} {kws : List Keyword}
theorem call_goes {pins : List (Addr × Obj)} {σ : L2.St} {H : Hp} {s : Shared} {Q : VK} {ar : Args} {us : List Value} {vs : List V} (F : FnG X.prog X.w X.K X.mg X.base CX k f fd ps sp) (hr : Room k X.A) (hg : X.A.guards = some []) (hx : Passes CX X E)
    (I : Inv X pins σ H s) (hb : BindsTo s fd ar (ps.zip us)) (r : Vals vs us) (h : sp vs H Q E) : codeAny (model X.prog X.w) X.A (.call (.ref f) ar) (fun r s' => match r with
      | .ok (.ret u) => EP X pins σ Q u s'
      | .ok _ => False
      | .error e => X.xe e s') s := by
  refine codeAny_mono (F.go X.A X.stack s H ar us vs Q E hr hg I.env0 hb r h) ?_
  intro rs s' hq
  cases rs with
  | error e => exact hx pins σ H s e s' I hq
  | ok fl => cases fl with
    | ret u => exact I.after hq
    | _ => exact False.elim hq
theorem wp_call {pins : List (Addr × Obj)} {σ : L2.St} {Q : VK} {s : Shared} {us : List Value} {kw : List (Str × Value)} (h : codeAny (model X.prog X.w) X.A (.call (.ref f) ⟨us, kw⟩) (fun r s' => match r with
      | .ok (.ret u) => EP X pins σ Q u s'
      | .ok _ => False
      | .error e => X.xe e s') s) : wpAny (model X.prog X.w) X.A (call (.ref f) us kw) (EP X pins σ Q) X.xe s := by
  refine wpAny_call (codeAny_mono h ?_)
  intro rs s' hq
  cases rs with
  | error e => exact hq
  | ok fl => cases fl with
    | ret u => exact hq
    | _ => exact False.elim hq
/-- f(e, ..) of a def with such a promise, every parameter given by place -/
theorem pe_callG (F : FnG X.prog X.w X.K X.mg X.base CX k f fd ps sp) (hr : Room k X.A) (hgd : X.A.guards = some []) (hg : Gl X x) (hm : X.mg x = some (.ref f)) (hk : PySem.W.keepIn X.K (.ref f) = true) (hb : Binds X.K fd ps []) (hx : Passes CX X E)
    (ha : PA X (e :: es) t) (hdb : (x == ("__debug__" : Str)) = false := by decide) (he : starEach (e :: es) X.env = (false, eval e X.env) :: starEach es X.env := by rfl) (hpl : (backTo pos (starEach es X.env)).any (·.1) = false := by rfl) :
    PE X (.Call (.Name x p) (e :: es) [] pos) (fun σ H Q => t σ H fun vs H1 => sp vs H1 Q E) := by
  constructor
  intro pins s σ H Q I h
  refine wpAny_Call_Name_kw (ld_glob I hg hm (PySem.W.callWith_K (h₀ := X.base) I.ok.mod.kin hk ?_ he hpl) hdb)
  refine thn (ha.run pos pins s σ H _ I h) ?_
  rintro us s1 ⟨vs, H1, I1, r, q⟩
  have l1 := F.args _ _ _ _ q
  have b := hb s1 us I1.kIn (by rw [List.append_nil, ← r.length, l1])
  rw [List.append_nil] at b
  exact ⟨I1.kIn, wp_call (call_goes F hr hgd hx I1 b r q)⟩
theorem pe_callG0 (F : FnG X.prog X.w X.K X.mg X.base CX k f fd ps sp) (hr : Room k X.A) (hgd : X.A.guards = some []) (hg : Gl X x) (hm : X.mg x = some (.ref f)) (hk : PySem.W.keepIn X.K (.ref f) = true) (hb : Binds X.K fd ps []) (hx : Passes CX X E)
    (hdb : (x == ("__debug__" : Str)) = false := by decide) : PE X (.Call (.Name x p) [] [] pos) (fun σ H Q => sp [] H Q E) := by
  constructor
  intro pins s σ H Q I h
  refine wpAny_Call_Name_kw (ld_glob I hg hm (PySem.W.callWith_K0 I.kIn hk ?_) hdb)
  have l1 := F.args _ _ _ _ h
  have b := hb s [] I.kIn (by rw [← l1]; rfl)
  exact wp_call (us := []) (kw := []) (call_goes (us := []) F hr hgd hx I b .nil h)
/-- what is bound by n values by place and keywords named ks: idx says which keyword each further parameter takes -/
def KwB (K : PySem.W.Frag) (fd : FuncData) (ps : List Str) (n : Nat) (ks : List Str) (idx : List Nat) : Prop :=
  ∀ (s : Shared) (us ws : List Value), K.In s.heap → us.length = n → ws.length = ks.length → BindsTo s fd ⟨us, ks.zip ws⟩ (ps.zip (us ++ idx.filterMap (ws[·]?)))
theorem vals_pick {vs : List V} {us : List Value} (r : Vals vs us) : ∀ idx : List Nat, Vals (idx.filterMap (vs[·]?)) (idx.filterMap (us[·]?))
  | [] => .nil
  | i :: idx => by
    have ih := vals_pick r idx
    rw [List.filterMap_cons, List.filterMap_cons]
    cases e : vs[i]? with
    | none =>
      rw [Vals.none_of r e]
      exact ih
    | some v =>
      obtain ⟨u, h1, h2⟩ := r.get e
      rw [h1]
      exact .cons h2 ih
/-- f(.., k = v, ..) -/
theorem pe_callGK {n : Nat} {ks : List Str} {idx : List Nat} (F : FnG X.prog X.w X.K X.mg X.base CX k f fd ps sp) (hr : Room k X.A) (hgd : X.A.guards = some []) (hg : Gl X x) (hm : X.mg x = some (.ref f)) (hk : PySem.W.keepIn X.K (.ref f) = true) (hb : KwB X.K fd ps n ks idx)
    (hx : Passes CX X E) (ha : PA X (e :: es) t) (hkw : PK X kws tk) (hall : (backToKw pos (keywordEach kws X.env)).all (·.1.isSome) = true := by rfl) (hks : (backToKw pos (keywordEach kws X.env)).filterMap (·.1) = ks := by rfl)
    (hdb : (x == ("__debug__" : Str)) = false := by decide) (he : starEach (e :: es) X.env = (false, eval e X.env) :: starEach es X.env := by rfl)
    (hpl : ((backTo pos (starEach (e :: es) X.env)).any (·.1) || (backToKw pos (keywordEach kws X.env)).any (·.1.isNone)) = false := by rfl) :
    PE X (.Call (.Name x p) (e :: es) kws pos) (fun σ H Q => t σ H fun vs H1 => tk σ H1 fun zs H2 => vs.length = n ∧ zs.length = ks.length ∧ sp (vs ++ idx.filterMap (zs[·]?)) H2 Q E) := by
  constructor
  intro pins s σ H Q I h
  refine wpAny_Call_Name_kw (ld_glob I hg hm (PySem.W.callWith_KW (h₀ := X.base) I.ok.mod.kin hk hall ?_ hpl he) hdb)
  refine thn (ha.run pos pins s σ H _ I h) ?_
  rintro us s1 ⟨vs, H1, I1, r, q⟩
  refine thn (hkw.run pos pins s1 σ H1 _ I1 q) ?_
  rintro ws s2 ⟨zs, H2, I2, rz, l1, l2, q2⟩
  rw [hks]
  exact ⟨I2.kIn, wp_call (call_goes F hr hgd hx I2 (hb s2 us ws I2.kIn (r.length.symm.trans l1) (rz.length.symm.trans l2)) (r.append (vals_pick rz idx)) q2)⟩
/-- f(k = v, ..), keywords alone -/
theorem pe_callGK0 {ks : List Str} {idx : List Nat} (F : FnG X.prog X.w X.K X.mg X.base CX k f fd ps sp) (hr : Room k X.A) (hgd : X.A.guards = some []) (hg : Gl X x) (hm : X.mg x = some (.ref f)) (hk : PySem.W.keepIn X.K (.ref f) = true) (hb : KwB X.K fd ps 0 ks idx)
    (hx : Passes CX X E) (hkw : PK X kws tk) (hall : (backToKw pos (keywordEach kws X.env)).all (·.1.isSome) = true := by rfl) (hks : (backToKw pos (keywordEach kws X.env)).filterMap (·.1) = ks := by rfl)
    (hdb : (x == ("__debug__" : Str)) = false := by decide) (hpl : ((backTo pos (starEach [] X.env)).any (·.1) || (backToKw pos (keywordEach kws X.env)).any (·.1.isNone)) = false := by rfl) :
    PE X (.Call (.Name x p) [] kws pos) (fun σ H Q => tk σ H fun zs H2 => zs.length = ks.length ∧ sp (idx.filterMap (zs[·]?)) H2 Q E) := by
  constructor
  intro pins s σ H Q I h
  refine wpAny_Call_Name_kw (ld_glob I hg hm (PySem.W.callWith_KW0 (h₀ := X.base) I.ok.mod.kin hk hall ?_ hpl) hdb)
  refine thn (hkw.run pos pins s σ H _ I h) ?_
  rintro ws s2 ⟨zs, H2, I2, rz, l2, q2⟩
  rw [hks]
  exact ⟨I2.kIn, wp_call (us := []) (call_goes F hr hgd hx I2 (hb s2 [] ws I2.kIn rfl (rz.length.symm.trans l2)) (vals_pick rz idx) q2)⟩
end

/-! ### promises by data -/
abbrev DSp := List D → M → (D → M → Prop) → Prop
/-- what a callee may not touch: tracked, neither frozen nor in the store -/
def gOf (HF : Hp) (m : M) (H : Hp) : Hp := fun b => match HF b, m b with
  | none, none => H b
  | _, _ => none
theorem gOf_at {HF : Hp} {m : M} {H : Hp} {b : Addr} (h1 : HF b = none) (h2 : m b = none) : gOf HF m H b = H b := by
  unfold gOf
  rw [h1, h2]
theorem gOf_some {HF : Hp} {m : M} {H : Hp} {b : Addr} {o : HO} (h : gOf HF m H b = some o) : H b = some o ∧ HF b = none ∧ m b = none := by
  unfold gOf at h
  split at h
  · rename_i h1 h2
    exact ⟨h, h1, h2⟩
  · cases h
def toSp (K : PySem.W.Frag) (sp : DSp) : Sp := fun vs H Q _ => ∃ HF m ds, Same HF H ∧ (∀ b o, m b = some o → HF b = none ∧ MOk K HF H b o) ∧ Rps K HF vs ds ∧ ∃ Qd : D → M → Prop, sp ds m Qd ∧
  ∀ d m' v HF' H', Qd d m' → Same HF HF' → Same HF' H' → (∀ b o, gOf HF m H b = some o → H' b = some o ∧ HF' b = none ∧ m' b = none) → (∀ b o, m' b = some o → HF' b = none ∧ MOk K HF' H' b o) → Rp K HF' v d → Q v H'
/-- the caller's side -/
theorem call_w {K : PySem.W.Frag} {sp : DSp} {g : Hp} {s : S} {HF : Hp} {σ : L2.St} {H : Hp} {vs : List V} {ds : List D} {Qd : D → M → Prop} {Q : VK} {E : XK} (R : Rel K g s HF σ H) (r : Rps K HF vs ds) (h : sp ds s.m Qd)
    (k : ∀ d m' v HF' H', Qd d m' → Beh K g HF σ { s with m := m' } HF' H' → Rp K HF' v d → Q v H') : toSp K sp vs H Q E := by
  refine ⟨HF, s.m, ds, R.same, R.mok, r, Qd, h, fun d m' v HF' H' q e1 e2 e3 e4 e5 => k d m' v HF' H' q ⟨⟨e2, fun b o z => ?_, e4, R.len, fun i x z => ?_, R.apart⟩, e1⟩ e5⟩
  · obtain ⟨z1, z2, z3⟩ := R.out b o z
    exact e3 b o (by rw [gOf_at z2 z3]; exact z1)
  · obtain ⟨o, z1, z2⟩ := R.slots i x z
    exact ⟨o, z1, z2.mono e1 fun a q1 q2 q3 ws q4 _ _ => e3 a _ (by rw [gOf_at q1 q2]; exact q4)⟩
def rCall (sp : DSp) (rr : RA) : RE := fun s Q => rr s fun ds s1 => sp ds s1.m fun d m' => Q d { s1 with m := m' }
def rCallK (sp : DSp) (n nk : Nat) (idx : List Nat) (rr rk : RA) : RE := fun s Q => rr s fun ds s1 => rk s1 fun es s2 => ds.length = n ∧ es.length = nk ∧ sp (ds ++ idx.filterMap (es[·]?)) s2.m fun d m' => Q d { s2 with m := m' }
structure DK (X : Cx) (kws : List Keyword) (r : RA) : Prop where
  pk : PK X kws (liftA X.K r)
section
variable {X : Cx} {k : Nat} {f : Addr} {fd : FuncData} {ps : List Str} {sp : DSp} {x : Str} {p pos kpos : Pos} {e : Expr} {es : List Expr} {ra : RE} {rr rk : RA} {kws : List Keyword} {nm : Option Str}
theorem PKweak {t t' : TA} (h : PK X kws t) (w : ∀ σ H Q, t' σ H Q → t σ H Q) : PK X kws t' := ⟨fun pos pins s σ H Q I q => h.run pos pins s σ H Q I (w σ H Q q)⟩
theorem dk_nil : DK X [] rNil := ⟨PKweak pk_nil fun σ H Q ⟨g, s, HF, R, Qd, q, k⟩ => k [] s [] HF H q (.rfl' R) .nil⟩
theorem dk_cons (ha : DE X e ra) (hr : DK X kws rr) : DK X (⟨nm, e, kpos⟩ :: kws) (rCons ra rr) := by
  refine ⟨PKweak (pk_cons ha.pe hr.pk) fun σ H Q ⟨g, s, HF, R, Qd, q, k⟩ => ?_⟩
  refine ⟨g, s, HF, R, _, q, fun d s1 v HF1 H1 q1 B1 r1 => ⟨g, s1, HF1, B1.1, _, q1, fun ds s2 vs HF2 H2 q2 B2 r2 => ?_⟩⟩
  exact k (d :: ds) s2 (v :: vs) HF2 H2 q2 (B1.step B2) (.cons (r1.mono B2.2) r2)
theorem de_call (F : FnG X.prog X.w X.K X.mg X.base CX0 k f fd ps (toSp X.K sp)) (hr : Room k X.A) (hgd : X.A.guards = some []) (hg : Gl X x) (hm : X.mg x = some (.ref f)) (hk : PySem.W.keepIn X.K (.ref f) = true) (hb : Binds X.K fd ps [])
    (ha : DA X (e :: es) rr) (hdb : (x == ("__debug__" : Str)) = false := by decide) (he : starEach (e :: es) X.env = (false, eval e X.env) :: starEach es X.env := by rfl) (hpl : (backTo pos (starEach es X.env)).any (·.1) = false := by rfl) :
    DE X (.Call (.Name x p) (e :: es) [] pos) (rCall sp rr) := by
  refine ⟨PEweak (pe_callG (E := E0) F hr hgd hg hm hk hb pass0 ha.pa hdb he hpl) fun σ H Q ⟨g, s, HF, R, Qd, q, k⟩ => ?_⟩
  refine ⟨g, s, HF, R, _, q, fun ds s1 vs HF1 H1 q1 B1 r1 => ?_⟩
  exact call_w B1.1 r1 q1 fun d m' v HF' H' q2 B2 r2 => k d _ v HF' H' q2 (B1.step B2) r2
theorem de_call0 (F : FnG X.prog X.w X.K X.mg X.base CX0 k f fd ps (toSp X.K sp)) (hr : Room k X.A) (hgd : X.A.guards = some []) (hg : Gl X x) (hm : X.mg x = some (.ref f)) (hk : PySem.W.keepIn X.K (.ref f) = true) (hb : Binds X.K fd ps [])
    (hdb : (x == ("__debug__" : Str)) = false := by decide) : DE X (.Call (.Name x p) [] [] pos) (rCall sp rNil) := by
  refine ⟨PEweak (pe_callG0 (E := E0) F hr hgd hg hm hk hb pass0 hdb) fun σ H Q ⟨g, s, HF, R, Qd, q, k⟩ => ?_⟩
  exact call_w R .nil q fun d m' v HF' H' q2 B2 r2 => k d _ v HF' H' q2 B2 r2
theorem rps_pick {K : PySem.W.Frag} {H : Hp} {vs : List V} {ds : List D} (r : Rps K H vs ds) : ∀ idx : List Nat, Rps K H (idx.filterMap (vs[·]?)) (idx.filterMap (ds[·]?))
  | [] => .nil
  | i :: idx => by
    have ih := rps_pick r idx
    rw [List.filterMap_cons, List.filterMap_cons]
    cases e : ds[i]? with
    | none =>
      have z : vs[i]? = none := by
        rw [List.getElem?_eq_none_iff] at e ⊢
        rw [r.length]
        exact e
      rw [z]
      exact ih
    | some d =>
      obtain ⟨v, h1, h2⟩ := r.get e
      rw [h1]
      exact .cons h2 ih
theorem de_callK {n : Nat} {ks : List Str} {idx : List Nat} (F : FnG X.prog X.w X.K X.mg X.base CX0 k f fd ps (toSp X.K sp)) (hr : Room k X.A) (hgd : X.A.guards = some []) (hg : Gl X x) (hm : X.mg x = some (.ref f)) (hk : PySem.W.keepIn X.K (.ref f) = true) (hb : KwB X.K fd ps n ks idx)
    (ha : DA X (e :: es) rr) (hkw : DK X kws rk) (hall : (backToKw pos (keywordEach kws X.env)).all (·.1.isSome) = true := by rfl) (hks : (backToKw pos (keywordEach kws X.env)).filterMap (·.1) = ks := by rfl)
    (hdb : (x == ("__debug__" : Str)) = false := by decide) (he : starEach (e :: es) X.env = (false, eval e X.env) :: starEach es X.env := by rfl)
    (hpl : ((backTo pos (starEach (e :: es) X.env)).any (·.1) || (backToKw pos (keywordEach kws X.env)).any (·.1.isNone)) = false := by rfl) :
    DE X (.Call (.Name x p) (e :: es) kws pos) (rCallK sp n ks.length idx rr rk) := by
  refine ⟨PEweak (pe_callGK (E := E0) F hr hgd hg hm hk hb pass0 ha.pa hkw.pk hall hks hdb he hpl) fun σ H Q ⟨g, s, HF, R, Qd, q, k⟩ => ?_⟩
  refine ⟨g, s, HF, R, _, q, fun ds s1 vs HF1 H1 q1 B1 r1 => ⟨g, s1, HF1, B1.1, _, q1, fun es s2 zs HF2 H2 q2 B2 r2 => ?_⟩⟩
  obtain ⟨l1, l2, q2⟩ := q2
  exact ⟨by rw [r1.length]; exact l1, by rw [r2.length]; exact l2, call_w B2.1 ((r1.mono B2.2).append (rps_pick r2 idx)) q2 fun d m' v HF' H' q3 B3 r3 => k d _ v HF' H' q3 ((B1.step B2).step B3) r3⟩
theorem de_callK0 {ks : List Str} {idx : List Nat} (F : FnG X.prog X.w X.K X.mg X.base CX0 k f fd ps (toSp X.K sp)) (hr : Room k X.A) (hgd : X.A.guards = some []) (hg : Gl X x) (hm : X.mg x = some (.ref f)) (hk : PySem.W.keepIn X.K (.ref f) = true) (hb : KwB X.K fd ps 0 ks idx)
    (hkw : DK X kws rk) (hall : (backToKw pos (keywordEach kws X.env)).all (·.1.isSome) = true := by rfl) (hks : (backToKw pos (keywordEach kws X.env)).filterMap (·.1) = ks := by rfl)
    (hdb : (x == ("__debug__" : Str)) = false := by decide) (hpl : ((backTo pos (starEach [] X.env)).any (·.1) || (backToKw pos (keywordEach kws X.env)).any (·.1.isNone)) = false := by rfl) :
    DE X (.Call (.Name x p) [] kws pos) (rCallK sp 0 ks.length idx rNil rk) := by
  refine ⟨PEweak (pe_callGK0 (E := E0) F hr hgd hg hm hk hb pass0 hkw.pk hall hks hdb hpl) fun σ H Q ⟨g, s, HF, R, Qd, q, k⟩ => ?_⟩
  refine ⟨g, s, HF, R, _, q, fun es s2 zs HF2 H2 q2 B2 r2 => ?_⟩
  obtain ⟨_, l2, q2⟩ := q2
  exact ⟨by rw [r2.length]; exact l2, call_w B2.1 (rps_pick r2 idx) q2 fun d m' v HF' H' q3 B3 r3 => k d _ v HF' H' q3 (B2.step B3) r3⟩
end
end DL

/-! part DLg -/
namespace DL
open PySem PySem.Spec PyProof.Rows L2

/-! ### statements -/
structure DEnds where
  nx : S → Prop
  rt : D → M → Prop
  bk : S → Prop := fun _ => False
  ct : S → Prop := fun _ => False
abbrev RS := DEnds → S → Prop
def put (s : S) (i : Nat) (x : Sl) : S := { s with sl := s.sl.set i x }
@[simp] theorem put_mk (m : M) (l : List Sl) (i : Nat) (x : Sl) : put ⟨m, l⟩ i x = ⟨m, l.set i x⟩ := rfl
/-- an end by data gives an end -/
def Fits (K : PySem.W.Frag) (g HF : Hp) (p : S → Prop) (q : L2.St → Hp → Prop) : Prop := ∀ s' σ' HF' H', p s' → Beh K g HF σ' s' HF' H' → q σ' H'
structure FitE (K : PySem.W.Frag) (g HF : Hp) (Dd : DEnds) (E : Ends) : Prop where
  nx : Fits K g HF Dd.nx E.nx
  bk : Fits K g HF Dd.bk E.bk
  ct : Fits K g HF Dd.ct E.ct
  rt : ∀ d s' σ' v HF' H', Dd.rt d s'.m → Beh K g HF σ' s' HF' H' → Rp K HF' v d → E.rt v H'
def liftS (K : PySem.W.Frag) (r : RS) : TS := fun E σ H => ∃ g s HF, Rel K g s HF σ H ∧ ∃ Dd : DEnds, r Dd s ∧ FitE K g HF Dd E
structure DS (X : Cx) (st : Stmt) (r : RS) : Prop where
  ps : PS X st (liftS X.K r)
structure DSs (X : Cx) (st : List Stmt) (r : RS) : Prop where
  pss : PSs X st (liftS X.K r)
theorem PSweak {X : Cx} {st : Stmt} {t t' : TS} (h : PS X st t) (w : ∀ D σ H, t' D σ H → t D σ H) : PS X st t' := ⟨fun pins s σ H D I q => h.run pins s σ H D I (w D σ H q)⟩
theorem PSsweak {X : Cx} {st : List Stmt} {t t' : TS} (h : PSs X st t) (w : ∀ D σ H, t' D σ H → t D σ H) : PSs X st t' := ⟨fun pins s σ H D I q => h.run pins s σ H D I (w D σ H q)⟩
section
variable {X : Cx} {st : Stmt} {rest body a b : List Stmt} {e c : Expr} {es : List Expr} {ra rb : RE} {rt : RT} {rr : RA} {r u : RS} {pos : Pos} {K : PySem.W.Frag} {g HF : Hp} {Dd : DEnds} {E : Ends}
theorem Fits.far {p : S → Prop} {q : L2.St → Hp → Prop} {HF1 : Hp} (h : Fits K g HF p q) (e : Same HF HF1) : Fits K g HF1 p q := fun s' σ' HF' H' z B => h s' σ' HF' H' z ⟨B.1, e.trans B.2⟩
theorem FitE.far {HF1 : Hp} (h : FitE K g HF Dd E) (e : Same HF HF1) : FitE K g HF1 Dd E :=
  ⟨h.nx.far e, h.bk.far e, h.ct.far e, fun d s' σ' v HF' H' z B => h.rt d s' σ' v HF' H' z ⟨B.1, e.trans B.2⟩⟩
def rNext : RS := fun D s => D.nx s
def rSeq (r u : RS) : RS := fun D s => r { D with nx := u D } s
theorem ds_nil : DSs X [] rNext := ⟨PSsweak pss_nil fun E σ H ⟨g, s, HF, R, Dd, q, k⟩ => k.nx s σ HF H q (.rfl' R)⟩
theorem ds_one (h : DS X st r) : DSs X [st] r := ⟨pss_one h.ps⟩
theorem ds_cons (h : DS X st r) (h2 : DSs X rest u) : DSs X (st :: rest) (rSeq r u) := by
  refine ⟨PSsweak (pss_cons h.ps h2.pss) fun E σ H ⟨g, s, HF, R, Dd, q, k⟩ => ?_⟩
  exact ⟨g, s, HF, R, _, q, ⟨fun s' σ' HF' H' z B => ⟨g, s', HF', B.1, Dd, z, k.far B.2⟩, k.bk, k.ct, k.rt⟩⟩
theorem ds_pass : DS X (.Pass pos) rNext := ⟨PSweak ps_pass fun E σ H ⟨g, s, HF, R, Dd, q, k⟩ => k.nx s σ HF H q (.rfl' R)⟩
def rBreak : RS := fun D s => D.bk s
def rCont : RS := fun D s => D.ct s
theorem ds_break : DS X (.Break pos) rBreak := ⟨PSweak ps_break fun E σ H ⟨g, s, HF, R, Dd, q, k⟩ => k.bk s σ HF H q (.rfl' R)⟩
theorem ds_cont : DS X (.Continue pos) rCont := ⟨PSweak ps_continue fun E σ H ⟨g, s, HF, R, Dd, q, k⟩ => k.ct s σ HF H q (.rfl' R)⟩
def rNever : RS := fun _ _ => False
theorem ds_never : DS X st rNever := ⟨PSweak ps_never fun E σ H ⟨g, s, HF, R, Dd, q, k⟩ => q.elim⟩
theorem dss_never : DSs X rest rNever := ⟨PSsweak pss_never fun E σ H ⟨g, s, HF, R, Dd, q, k⟩ => q.elim⟩
def rDrop (ra : RE) : RS := fun D s => ra s fun _ s1 => D.nx s1
theorem ds_expr (he : DE X e ra) (hs : swapsWith e none pos.line X.env = pure false := by rfl) : DS X (.Expr e pos) (rDrop ra) := by
  refine ⟨PSweak (ps_expr he.pe hs) fun E σ H ⟨g, s, HF, R, Dd, q, k⟩ => ?_⟩
  exact ⟨g, s, HF, R, _, q, fun d s1 v HF1 H1 q1 B1 _ => k.nx s1 σ HF1 H1 q1 B1⟩
def rRet (ra : RE) : RS := fun D s => ra s fun d s1 => D.rt d s1.m
theorem ds_ret (he : DE X e ra) : DS X (.Return (some e) pos) (rRet ra) := by
  refine ⟨PSweak (ps_ret he.pe) fun E σ H ⟨g, s, HF, R, Dd, q, k⟩ => ?_⟩
  exact ⟨g, s, HF, R, _, q, fun d s1 v HF1 H1 q1 B1 r1 => k.rt d s1 σ v HF1 H1 q1 B1 r1⟩
def rRetN : RS := fun D s => D.rt .non s.m
theorem ds_retN : DS X (.Return none pos) rRetN := ⟨PSweak ps_retN fun E σ H ⟨g, s, HF, R, Dd, q, k⟩ => k.rt .non s σ .non HF H q (.rfl' R) .non⟩
def rIfS (t : RT) (r u : RS) : RS := fun D s => t s fun b s1 => if b = true then r D s1 else u D s1
theorem ds_if (hc : DT X c rt) (ha : DSs X a r) (hb : DSs X b u) : DS X (.If c a b pos) (rIfS rt r u) := by
  refine ⟨PSweak (ps_if hc.pt ha.pss hb.pss) fun E σ H ⟨g, s, HF, R, Dd, q, k⟩ => ?_⟩
  refine ⟨g, s, HF, R, _, q, fun b s1 HF1 H1 q1 B1 => ?_⟩
  cases b with
  | true => exact iteT ⟨g, s1, HF1, B1.1, Dd, q1, k.far B1.2⟩
  | false => exact iteF ⟨g, s1, HF1, B1.1, Dd, q1, k.far B1.2⟩
/-- name = e -/
def rSet (i : Nat) (ra : RE) : RS := fun D s => ra s fun d s1 => D.nx (put s1 i (.val d))
theorem ds_set {i : Nat} {x : Str} {p : Pos} (hN : X.N.Nodup) (hi : X.N[i]? = some x) (hx : Loc X.env.scope x) (he : DE X e ra) (hs : swapsWith e (some (.Name x p)) pos.line X.env = pure false := by rfl)
    (hf : X.fn x = true ∨ X.env.scope.names.lookup x = some .local := by first | exact .inl rfl | exact .inr rfl | assumption) : DS X (.Assign [.Name x p] e pos) (rSet i ra) := by
  refine ⟨PSweak (ps_set hN hi hx he.pe hs hf) fun E σ H ⟨g, s, HF, R, Dd, q, k⟩ => ?_⟩
  exact ⟨g, s, HF, R, _, q, fun d s1 v HF1 H1 q1 B1 r1 => k.nx _ _ HF1 H1 q1 ⟨B1.1.put i r1, B1.2⟩⟩
/-- name = a new list, the name's own -/
def rSetF (i : Nat) (rr : RA) : RS := fun D s => rr s fun ds s1 => D.nx (put s1 i (.own ds))
theorem ds_setF {i : Nat} {x : Str} {p : Pos} (hN : X.N.Nodup) (hi : X.N[i]? = some x) (hx : Loc X.env.scope x) (he : DF X e rr) (hs : swapsWith e (some (.Name x p)) pos.line X.env = pure false := by rfl)
    (hf : X.fn x = true ∨ X.env.scope.names.lookup x = some .local := by first | exact .inl rfl | exact .inr rfl | assumption) : DS X (.Assign [.Name x p] e pos) (rSetF i rr) := by
  refine ⟨PSweak (ps_set hN hi hx he.pe hs hf) fun E σ H ⟨g, s, HF, R, Dd, q, k⟩ => ?_⟩
  exact ⟨g, s, HF, R, _, q, fun ds s1 vs HF1 H1 p q1 B1 r1 hp => k.nx _ _ HF1 _ q1 ⟨B1.1.putOwn i hp r1, B1.2⟩⟩
/-- a, b = e, f: plain local names -/
def rPar (i j : Nat) (rr : RA) : RS := fun D s => rr s fun ds s1 => ∃ d e, ds = [d, e] ∧ D.nx (put (put s1 i (.val d)) j (.val e))
theorem ds_par {i j : Nat} {x y : Str} {p q : Expr} {px py pt : Pos} {kt k2 pt2} (hc : X.calm = true) (hN : X.N.Nodup) (hi : X.N[i]? = some x) (hj : X.N[j]? = some y) (hij : i ≠ j)
    (hx : X.env.scope.names.lookup x = some .local) (hy : X.env.scope.names.lookup y = some .local) (ha : DA X [p, q] rr)
    (hw : swappedStores [.Tuple [.Name x px, .Name y py] kt pt] (.Tuple [p, q] k2 pt2) X.env = pure (some [x, y]))
    (hs : swapsWithSole [.Tuple [.Name x px, .Name y py] kt pt] (.Tuple [p, q] k2 pt2) pos.line X.env = pure false := by rfl) :
    DS X (.Assign [.Tuple [.Name x px, .Name y py] kt pt] (.Tuple [p, q] k2 pt2) pos) (rPar i j rr) := by
  refine ⟨PSweak (ps_par hc hN hi hj hij hx hy ha.pa hw hs) fun E σ H ⟨g, s, HF, R, Dd, q, k⟩ => ?_⟩
  refine ⟨g, s, HF, R, _, q, fun ds s1 vs HF1 H1 q1 B1 r1 => ?_⟩
  obtain ⟨d, e, rfl, q1⟩ := q1
  cases r1 with
  | @cons v _ _ _ h1 r1 =>
    cases r1 with
    | @cons w _ _ _ h2 r2 =>
      cases r2
      exact ⟨v, w, rfl, k.nx _ _ HF1 H1 q1 ⟨(B1.1.put i h1).put j h2, B1.2⟩⟩
def rPar3 (i j l : Nat) (rr : RA) : RS := fun D s => rr s fun ds s1 => ∃ d e f, ds = [d, e, f] ∧ D.nx (put (put (put s1 i (.val d)) j (.val e)) l (.val f))
theorem ds_par3 {i j l : Nat} {x y z : Str} {p q o : Expr} {px py pz pt : Pos} {kt k2 pt2} (hc : X.calm = true) (hN : X.N.Nodup) (hi : X.N[i]? = some x) (hj : X.N[j]? = some y) (hl : X.N[l]? = some z) (hij : i ≠ j) (hil : i ≠ l) (hjl : j ≠ l)
    (hx : X.env.scope.names.lookup x = some .local) (hy : X.env.scope.names.lookup y = some .local) (hz : X.env.scope.names.lookup z = some .local) (ha : DA X [p, q, o] rr)
    (hw : swappedStores [.Tuple [.Name x px, .Name y py, .Name z pz] kt pt] (.Tuple [p, q, o] k2 pt2) X.env = pure (some [x, y, z]))
    (hs : swapsWithSole [.Tuple [.Name x px, .Name y py, .Name z pz] kt pt] (.Tuple [p, q, o] k2 pt2) pos.line X.env = pure false := by rfl) :
    DS X (.Assign [.Tuple [.Name x px, .Name y py, .Name z pz] kt pt] (.Tuple [p, q, o] k2 pt2) pos) (rPar3 i j l rr) := by
  refine ⟨PSweak (ps_par3 hc hN hi hj hl hij hil hjl hx hy hz ha.pa hw hs) fun E σ H ⟨g, s, HF, R, Dd, q, k⟩ => ?_⟩
  refine ⟨g, s, HF, R, _, q, fun ds s1 vs HF1 H1 q1 B1 r1 => ?_⟩
  obtain ⟨d, e, f, rfl, q1⟩ := q1
  cases r1 with
  | @cons v _ _ _ h1 r1 =>
    cases r1 with
    | @cons w _ _ _ h2 r2 =>
      cases r2 with
      | @cons o _ _ _ h3 r3 =>
        cases r3
        exact ⟨v, w, o, rfl, k.nx _ _ HF1 H1 q1 ⟨((B1.1.put i h1).put j h2).put l h3, B1.2⟩⟩
/-- name op= e, ints -/
def rAug (i : Nat) (f : Int → Int → Int) (ra : RE) : RS := fun D s => rPeek i s fun d0 _ => ra s fun d s1 => ∃ n m, d0 = .int n ∧ d = .int m ∧ D.nx (put s1 i (.val (.int (f n m))))
theorem ds_aug {i : Nat} {x : Str} {p : Pos} {op : Operator} {f : Int → Int → Int} (hN : X.N.Nodup) (hi : X.N[i]? = some x) (hx : Loc X.env.scope x) (ho : PIp X op (ipI f)) (he : DE X e ra)
    (hf : X.fn x = true ∨ X.env.scope.names.lookup x = some .local := by first | exact .inl rfl | exact .inr rfl | assumption) : DS X (.AugAssign (.Name x p) op e pos) (rAug i f ra) := by
  refine ⟨PSweak (ps_aug hN hi hx he.pe ho hf) fun E σ H ⟨g, s, HF, R, Dd, q, k⟩ => ?_⟩
  obtain ⟨v0, d0, h1, h2, q⟩ := peek_at R q
  refine ⟨v0, h1, g, s, HF, R, _, q, fun d s1 v HF1 H1 q1 B1 r1 => ?_⟩
  obtain ⟨n, m, rfl, rfl, q1⟩ := q1
  rw [rpt_int h2]
  cases r1
  exact ⟨n, m, rfl, rfl, k.nx _ _ HF1 H1 q1 ⟨B1.1.put i (.int _), B1.2⟩⟩
/-- what a slot's list becomes: the name's own list, or a thing of the store -/
def lstAt (s : S) (i : Nat) : Option (List D × (List D → S)) := match s.sl[i]? with
  | some (.own ds) => some (ds, fun es => put s i (.own es))
  | some (.val (.hnd (.ref a))) => (match s.m a with
    | some (.lst ds) => some (ds, fun es => { s with m := mset s.m a (.lst es) })
    | none => none)
  | _ => none
theorem lst_at {s : S} {σ : L2.St} {H : Hp} {i : Nat} {ds : List D} {up : List D → S} (R : Rel K g s HF σ H) (h : lstAt s i = some (ds, up)) :
    ∃ a vs, σ[i]? = some (some (.ref a)) ∧ H a = some (.lst vs) ∧ Rps K HF vs ds ∧ ∀ es ws, Rps K HF ws es → Rel K g (up es) HF σ (upd H a (.lst ws)) := by
  unfold lstAt at h
  split at h
  · rename_i es hi
    cases h
    obtain ⟨a, vs, h1, h2, h3, _⟩ := R.getOwn hi
    exact ⟨a, vs, h1, h2, h3, fun es ws r => R.write hi h1 r⟩
  · rename_i a hi
    obtain ⟨v, h1, h2⟩ := R.getVal hi
    cases h2
    split at h
    · rename_i es hm
      cases h
      obtain ⟨_, vs, h3, h4⟩ := R.mok a _ hm
      exact ⟨a, vs, h1, h3, h4, fun es ws r => R.mwrite hm r⟩
    · cases h
  · cases h
/-- name.append(e) -/
def rApp (i : Nat) (ra : RE) : RS := fun D s => (∃ u, lstAt s i = some u) ∧ ra s fun d s1 => ∃ ds up, lstAt s1 i = some (ds, up) ∧ ds.length < sizeLine ∧ D.nx (up (ds ++ [d]))
theorem ds_app {i : Nat} {o : Expr} {apos cpos : Pos} (h : PE X (.Call (.Attribute o "append" apos) [e] [] cpos) (tBM X.K "list" rAppend (tVar i) (tCons (liftE X.K ra) tNil)))
    (hs : swapsWith (.Call (.Attribute o "append" apos) [e] [] cpos) none pos.line X.env = pure false := by rfl) : DS X (.Expr (.Call (.Attribute o "append" apos) [e] [] cpos) pos) (rApp i ra) := by
  refine ⟨PSweak (ps_expr h hs) fun E σ H ⟨g, s, HF, R, Dd, q, k⟩ => ?_⟩
  obtain ⟨⟨⟨ds0, up0⟩, h0⟩, q⟩ := q
  obtain ⟨a, vs0, e1, e2, _, _⟩ := lst_at R h0
  refine ⟨_, e1, .inl ⟨rfl, _, SqL.of e2⟩, g, s, HF, R, _, q, fun d s1 v HF1 H1 q1 B1 r1 => ?_⟩
  obtain ⟨ds, up, h1, hz, q2⟩ := q1
  obtain ⟨a', vs, w1, w2, w3, w4⟩ := lst_at B1.1 h1
  rw [e1] at w1
  cases w1
  exact ⟨a, vs, v, rfl, rfl, w2, by rw [w3.length]; exact hz, k.nx _ _ HF1 _ q2 ⟨w4 _ _ (w3.append (.one r1)), B1.2⟩⟩
/-- name.extend(e), e a list -/
def rExt (i : Nat) (ra : RE) : RS := fun D s => (∃ u, lstAt s i = some u) ∧ ra s fun d s1 => ∃ ds up es, lstAt s1 i = some (ds, up) ∧ d = .lst es ∧ ds.length + es.length ≤ sizeLine ∧ D.nx (up (ds ++ es))
theorem ds_ext {i : Nat} {o : Expr} {apos cpos : Pos} (h : PE X (.Call (.Attribute o "extend" apos) [e] [] cpos) (tBM X.K "list" rExtend (tVar i) (tCons (liftE X.K ra) tNil)))
    (hs : swapsWith (.Call (.Attribute o "extend" apos) [e] [] cpos) none pos.line X.env = pure false := by rfl) : DS X (.Expr (.Call (.Attribute o "extend" apos) [e] [] cpos) pos) (rExt i ra) := by
  refine ⟨PSweak (ps_expr h hs) fun E σ H ⟨g, s, HF, R, Dd, q, k⟩ => ?_⟩
  obtain ⟨⟨⟨ds0, up0⟩, h0⟩, q⟩ := q
  obtain ⟨a, vs0, e1, e2, _, _⟩ := lst_at R h0
  refine ⟨_, e1, .inl ⟨rfl, _, SqL.of e2⟩, g, s, HF, R, _, q, fun d s1 v HF1 H1 q1 B1 r1 => ?_⟩
  obtain ⟨ds, up, es, h1, rfl, hz, q2⟩ := q1
  obtain ⟨a', vs, w1, w2, w3, w4⟩ := lst_at B1.1 h1
  rw [e1] at w1
  cases w1
  cases r1 with
  | @lst b ws _ hb rb => exact ⟨a, b, vs, ws, rfl, rfl, w2, B1.1.same _ _ hb, by rw [w3.length, rb.length]; exact hz, k.nx _ _ HF1 _ q2 ⟨w4 _ _ (w3.append rb), B1.2⟩⟩
/-- name[e] = e2 -/
def rSetIx (i : Nat) (ra rb : RE) : RS := fun D s => ra s fun d s1 => rPeek i s1 fun _ _ => rb s1 fun di s2 => ∃ ds up n j, lstAt s2 i = some (ds, up) ∧ di = .int n ∧ ixN ds.length n = some j ∧ D.nx (up (ds.set j d))
theorem ds_setIx {i : Nat} {o ix : Expr} {tpos : Pos} (ho : PE X o (tVar i)) (hv : DE X e ra) (hb : DE X ix rb)
    (ha : ∀ v, assign (.Subscript o ix tpos) X.env v = (do
      let ov ← holding [v] (eval o X.env)
      let iv ← holding [v, ov] (eval ix X.env)
      standAt tpos
      holding [v, ov, iv] (setItem ov iv v)
      release [v, ov, iv] []) := by intro _; rfl) (hs : swapsWithSole [.Subscript o ix tpos] e pos.line X.env = pure false := by rfl) (hw : swappedStores [.Subscript o ix tpos] e X.env = pure none := by rfl)
    (h1 : (assignEach [.Subscript o ix tpos] X.env).map (·.2) = [assign (.Subscript o ix tpos) X.env] := by rfl) : DS X (.Assign [.Subscript o ix tpos] e pos) (rSetIx i ra rb) := by
  refine ⟨PSweak (ps_asg hv.pe (pg_sub ho hb.pe set_list ha) hs hw h1) fun E σ H ⟨g, s, HF, R, Dd, q, k⟩ => ?_⟩
  refine ⟨g, s, HF, R, _, q, fun d s1 v HF1 H1 q1 B1 r1 => ?_⟩
  obtain ⟨v0, d0, e0, _, q1⟩ := peek_at B1.1 q1
  refine ⟨v0, e0, g, s1, HF1, B1.1, _, q1, fun di s2 vi HF2 H2 q2 B2 r2 => ?_⟩
  obtain ⟨ds, up, n, j, h1, rfl, hj, q3⟩ := q2
  obtain ⟨a, vs, w1, w2, w3, w4⟩ := lst_at B2.1 h1
  rw [e0] at w1
  cases w1
  cases r2
  exact ⟨a, vs, n, j, rfl, rfl, w2, by rw [w3.length]; exact hj, k.nx _ _ HF2 _ q3 ⟨w4 _ _ (w3.set (r1.mono B2.2) j), (B1.step B2).2⟩⟩

/-! ### targets -/
abbrev RG := D → S → (S → Prop) → Prop
/-- ws: the slots that the target stores -/
def liftG (K : PySem.W.Frag) (ws : List Nat) (r : RG) : TG := fun v σ H Q => ∃ g s HF d, Rel K g s HF σ H ∧ Rp K HF v d ∧ ∃ Qd : S → Prop, r d s Qd ∧
  ∀ s' σ' HF' H', Qd s' → Beh K g HF σ' s' HF' H' → (∀ js, (∀ i ∈ ws, i ∈ js) → wipe σ' js = wipe σ js) → Q σ' H'
structure DG (X : Cx) (tg : Expr) (ws : List Nat) (r : RG) : Prop where
  pg : PG X tg (liftG X.K ws r)
theorem PGweak {tg : Expr} {t t' : TG} (h : PG X tg t) (w : ∀ v σ H Q, t' v σ H Q → t v σ H Q) : PG X tg t' := ⟨fun pins s σ H v u Q I r q => h.run pins s σ H v u Q I r (w v σ H Q q)⟩
theorem wipe_set {σ : L2.St} {i : Nat} {x : Option V} : ∀ {js : List Nat}, i ∈ js → wipe (σ.set i x) js = wipe σ js
  | [], h => by cases h
  | j :: js, h => by
    show (wipe (σ.set i x) js).set j none = (wipe σ js).set j none
    by_cases hj : i ∈ js
    · rw [wipe_set hj]
    · have e : i = j := by
        rcases List.mem_cons.mp h with z | z
        · exact z
        · exact absurd z hj
      subst e
      have key : ∀ {ks : List Nat}, i ∉ ks → wipe (σ.set i x) ks = (wipe σ ks).set i x := by
        intro ks
        induction ks with
        | nil => intro _; rfl
        | cons k ks ih =>
          intro hn
          have n1 : i ≠ k := fun z => hn (by simp [z])
          have n2 : i ∉ ks := fun z => hn (by simp [z])
          show (wipe (σ.set i x) ks).set k none = ((wipe σ ks).set k none).set i x
          rw [ih n2, List.set_comm _ _ n1]
      rw [key hj, List.set_set]
def gNm (i : Nat) : RG := fun d s Q => Q (put s i (.val d))
theorem dg_name {i : Nat} {x : Str} (hN : X.N.Nodup) (hi : X.N[i]? = some x) (hx : Loc X.env.scope x) (hf : X.fn x = true ∨ X.env.scope.names.lookup x = some .local := by first | exact .inl rfl | exact .inr rfl | assumption) : DG X (.Name x pos) [i] (gNm i) :=
  ⟨PGweak (pg_name hN hi hx hf) fun v σ H Q ⟨g, s, HF, d, R, rv, Qd, q, k⟩ => k _ _ HF H q ⟨R.put i rv, Same.refl _⟩ fun js h => wipe_set (h i (by simp))⟩
abbrev RGs := List D → S → (S → Prop) → Prop
def liftGs (K : PySem.W.Frag) (ws : List Nat) (r : RGs) : TGs := fun vs σ H Q => ∃ g s HF ds, Rel K g s HF σ H ∧ Rps K HF vs ds ∧ ∃ Qd : S → Prop, r ds s Qd ∧
  ∀ s' σ' HF' H', Qd s' → Beh K g HF σ' s' HF' H' → (∀ js, (∀ i ∈ ws, i ∈ js) → wipe σ' js = wipe σ js) → Q σ' H'
structure DGs (X : Cx) (ts : List Expr) (ws : List Nat) (r : RGs) : Prop where
  pgs : PGs X ts (liftGs X.K ws r)
theorem PGsweak {ts : List Expr} {t t' : TGs} (h : PGs X ts t) (w : ∀ v σ H Q, t' v σ H Q → t v σ H Q) : PGs X ts t' := ⟨fun pins s σ H v u Q I r q => h.run pins s σ H v u Q I r (w v σ H Q q)⟩
def gsNil : RGs := fun ds s Q => ds = [] ∧ Q s
def gsCons (r : RG) (u : RGs) : RGs := fun ds s Q => ∃ d es, ds = d :: es ∧ r d s fun s1 => u es s1 Q
theorem dgs_nil : DGs X [] [] gsNil := by
  refine ⟨PGsweak pgs_nil fun v σ H Q ⟨g, s, HF, ds, R, rv, Qd, q, k⟩ => ?_⟩
  obtain ⟨rfl, q⟩ := q
  cases rv
  exact ⟨rfl, k s σ HF H q (.rfl' R) fun _ _ => rfl⟩
theorem dgs_cons {t : Expr} {ts : List Expr} {ws us : List Nat} {r1 : RG} {r2 : RGs} (h1 : DG X t ws r1) (h2 : DGs X ts us r2) (hs : (assignEach (t :: ts) X.env).map (·.2) = assign t X.env :: (assignEach ts X.env).map (·.2) := by rfl) : DGs X (t :: ts) (ws ++ us) (gsCons r1 r2) := by
  refine ⟨PGsweak (pgs_cons h1.pg h2.pgs hs) fun vs σ H Q ⟨g, s, HF, ds, R, rv, Qd, q, k⟩ => ?_⟩
  obtain ⟨d, es, rfl, q⟩ := q
  cases rv with
  | @cons v vs _ _ hv hvs =>
    refine ⟨v, vs, rfl, g, s, HF, d, R, hv, _, q, fun s1 σ1 HF1 H1 q1 B1 w1 => ⟨g, s1, HF1, es, B1.1, hvs.mono B1.2, _, q1, fun s2 σ2 HF2 H2 q2 B2 w2 => ?_⟩⟩
    exact k s2 σ2 HF2 H2 q2 ⟨B2.1, B1.2.trans B2.2⟩ fun js h => (w2 js fun i hi => h i (List.mem_append_right _ hi)).trans (w1 js fun i hi => h i (List.mem_append_left _ hi))
def gTp (n : Nat) (u : RGs) : RG := fun d s Q => ∃ ds, d = .tup ds ∧ ds.length = n ∧ u ds s Q
theorem dg_tup {ts : List Expr} {kk n : Nat} {ws : List Nat} {u : RGs} (hc : X.calm = true) (h : DGs X ts ws u) (hn : (assignEach ts X.env).length = n := by rfl) (hst : (assignEach ts X.env).findIdx? (·.1) = none := by rfl) : DG X (.Tuple ts kk pos) ws (gTp n u) := by
  refine ⟨PGweak (pg_tup hc h.pgs hn hst) fun v σ H Q ⟨g, s, HF, d, R, rv, Qd, q, k⟩ => ?_⟩
  obtain ⟨ds, rfl, hl, q⟩ := q
  cases rv with
  | @tup a xs _ h1 h2 => exact ⟨a, xs, rfl, Same.seqT R.same h1, h2.length.trans hl, g, s, HF, ds, R, h2, Qd, q, k⟩
/-- target = e -/
def rAsg (ra : RE) (gt : RG) : RS := fun D s => ra s fun d s1 => gt d s1 D.nx
theorem ds_asg {tg : Expr} {ws : List Nat} {gt : RG} (he : DE X e ra) (hg : DG X tg ws gt) (hs : swapsWithSole [tg] e pos.line X.env = pure false := by rfl) (hw : swappedStores [tg] e X.env = pure none := by rfl)
    (h1 : (assignEach [tg] X.env).map (·.2) = [assign tg X.env] := by rfl) : DS X (.Assign [tg] e pos) (rAsg ra gt) := by
  refine ⟨PSweak (ps_asg he.pe hg.pg hs hw h1) fun E σ H ⟨g, s, HF, R, Dd, q, k⟩ => ?_⟩
  exact ⟨g, s, HF, R, _, q, fun d s1 v HF1 H1 q1 B1 r1 => ⟨g, s1, HF1, d, B1.1, r1, _, q1, fun s2 σ2 HF2 H2 q2 B2 _ => k.nx s2 σ2 HF2 H2 q2 ⟨B2.1, B1.2.trans B2.2⟩⟩⟩

/-! ### while -/
def rWhile (t : RT) (r : RS) : RS := fun D s => ∃ W : Nat → S → Prop, (∃ n, W n s) ∧ ∀ n s1, W n s1 → t s1 fun b s2 => if b = true then r { D with nx := fun s3 => ∃ m, m < n ∧ W m s3, ct := fun s3 => ∃ m, m < n ∧ W m s3, bk := D.nx } s2 else D.nx s2
theorem ds_while (hp : PassesOwn (model X.prog X.w) X.A X.env X.xe) (hc : DT X c rt) (hb : DSs X body r) : DS X (.While c body [] pos) (rWhile rt r) := by
  refine ⟨PSweak (ps_while hp hc.pt hb.pss) fun E σ H ⟨g, s, HF, R, Dd, q, k⟩ => ?_⟩
  obtain ⟨W, ⟨n0, w0⟩, turn⟩ := q
  refine ⟨fun n σ' H' => ∃ s' HF', W n s' ∧ Beh X.K g HF σ' s' HF' H', ⟨n0, s, HF, w0, .rfl' R⟩, ?_⟩
  rintro n σ1 H1 ⟨s1, HF1, w1, B1⟩
  refine ⟨g, s1, HF1, B1.1, _, turn n s1 w1, fun b s2 HF2 H2 q2 B2 => ?_⟩
  have f2 : Same HF HF2 := B1.2.trans B2.2
  cases b with
  | false => exact iteF (k.nx s2 σ1 HF2 H2 q2 ⟨B2.1, f2⟩)
  | true =>
    refine iteT ⟨fun σ3 H3 => ∃ s3 HF3, (∃ m, m < n ∧ W m s3) ∧ Beh X.K g HF σ3 s3 HF3 H3, ?_, g, s2, HF2, B2.1, _, q2, ?_⟩
    · rintro σ3 H3 ⟨s3, HF3, ⟨m, hm, w3⟩, B3⟩
      exact ⟨m, hm, s3, HF3, w3, B3⟩
    · exact ⟨fun s3 σ3 HF3 H3 q3 B3 => ⟨s3, HF3, q3, B3.1, f2.trans B3.2⟩, (k.far f2).nx, fun s3 σ3 HF3 H3 q3 B3 => ⟨s3, HF3, q3, B3.1, f2.trans B3.2⟩, (k.far f2).rt⟩

/-! ### what a loop walks -/
/-- at each turn the next of ds, or a new pair of it -/
structure Wk (K : PySem.W.Frag) (J : It) (ds : List D) (HF : Hp) : Prop where
  go : ∀ i H, i < ds.length → Same HF H → J.go i H
  stop : ∀ H, Same HF H → J.stop ds.length H
  yld : ∀ i H x H', i < ds.length → Same HF H → J.yld i H x H' → (H' = H ∧ ∃ d, ds[i]? = some d ∧ Rp K HF x d) ∨
    ∃ T u v du dv, x = .ref T ∧ H T = none ∧ H' = upd H T (.tup [u, v]) ∧ ds[i]? = some (.tup [du, dv]) ∧ Rp K HF u du ∧ Rp K HF v dv
def liftI (K : PySem.W.Frag) (r : RA) : TI := fun σ H R => ∃ g s HF, Rel K g s HF σ H ∧ ∃ Qd : List D → S → Prop, r s Qd ∧ ∀ ds s' J HF' H', Qd ds s' → Beh K g HF σ s' HF' H' → Wk K J ds HF' → R J H'
structure DI (X : Cx) (tg iter : Expr) (r : RA) : Prop where
  pi : PI X tg iter (liftI X.K r)
theorem PIweak {tg iter : Expr} {t t' : TI} (h : PI X tg iter t) (w : ∀ σ H R, t' σ H R → t σ H R) : PI X tg iter t' := ⟨fun pins s σ H R I q => h.run pins s σ H R I (w σ H R q)⟩
/-- a turn's thing, frozen -/
theorem Wk.turn {J : It} {ds : List D} {HF0 : Hp} (w : Wk K J ds HF0) {s : S} {σ : L2.St} {H H' : Hp} {i : Nat} {x : V} (R : Rel K g s HF σ H) (e : Same HF0 HF) (hi : i < ds.length) (y : J.yld i H x H') :
    ∃ d HF', ds[i]? = some d ∧ Beh K g HF σ s HF' H' ∧ Rp K HF' x d := by
  rcases w.yld i H x H' hi (e.trans R.same) y with ⟨rfl, d, h1, h2⟩ | ⟨T, u, v, du, dv, rfl, hT, rfl, h1, h2, h3⟩
  · exact ⟨d, HF, h1, .rfl' R, h2.mono e⟩
  · have sF := same_upd (o := .tup [u, v]) (R.freshF hT)
    exact ⟨_, _, h1, ⟨R.alloc hT _, sF⟩, .tup (SqT.of upd_same) (.cons ((h2.mono e).mono sF) (.cons ((h3.mono e).mono sF) .nil))⟩
def rFor (ri : RA) (gt : RG) (r : RS) : RS := fun D s => ri s fun ds s1 => ∃ W : Nat → S → Prop, W 0 s1 ∧ (∀ i d s2, ds[i]? = some d → W i s2 → gt d s2 fun s3 => r { D with nx := W (i + 1), ct := W (i + 1), bk := D.nx } s3) ∧ ∀ s2, W ds.length s2 → D.nx s2
theorem ds_for {tg iter : Expr} {ri : RA} {ws : List Nat} {gt : RG} (hp : PassesOwn (model X.prog X.w) X.A X.env X.xe) (hc : X.calm = true) (hi : DI X tg iter ri) (hg : DG X tg ws gt) (hb : DSs X body r)
    (hs : ∀ x, foldedSetIterable iter X.env x = pure x := by intro _; rfl) : DS X (.For tg iter body [] pos) (rFor ri gt r) := by
  refine ⟨PSweak (ps_for hp hc hi.pi hg.pg hb.pss hs) fun E σ H ⟨g, s, HF, R, Dd, q, k⟩ => ?_⟩
  refine ⟨g, s, HF, R, _, q, fun ds s1 J HF1 H1 q1 B1 w => ?_⟩
  obtain ⟨W, w0, turn, fin⟩ := q1
  refine ⟨fun i m σ' H' => m = ds.length - i ∧ i ≤ ds.length ∧ ∃ s' HF', W i s' ∧ Beh X.K g HF1 σ' s' HF' H', ⟨ds.length, rfl, Nat.zero_le _, s1, HF1, w0, .rfl' B1.1⟩, ?_⟩
  rintro i m σ2 H2 ⟨rfl, hle, s2, HF2, w2, B2⟩
  have f2 : Same HF HF2 := B1.2.trans B2.2
  by_cases hlt : i < ds.length
  · refine .inr ⟨w.go i H2 hlt (B2.2.trans B2.1.same), fun σ' H' => ∃ s' HF', W (i + 1) s' ∧ Beh X.K g HF1 σ' s' HF' H', ?_, fun x H3 y => ?_⟩
    · rintro σ' H' ⟨s', HF', w', B'⟩
      exact ⟨ds.length - (i + 1), by omega, rfl, hlt, s', HF', w', B'⟩
    · obtain ⟨d, HF3, hd, B3, r3⟩ := w.turn B2.1 B2.2 hlt y
      refine ⟨g, s2, HF3, d, B3.1, r3, _, turn i d s2 hd w2, fun s4 σ4 HF4 H4 q4 B4 _ => ?_⟩
      have f4 : Same HF HF4 := (f2.trans B3.2).trans B4.2
      have f14 : Same HF1 HF4 := (B2.2.trans B3.2).trans B4.2
      refine ⟨g, s4, HF4, B4.1, _, q4, ⟨?_, (k.far f4).nx, ?_, (k.far f4).rt⟩⟩
      · exact fun s5 σ5 HF5 H5 q5 B5 => ⟨s5, HF5, q5, B5.1, f14.trans B5.2⟩
      · exact fun s5 σ5 HF5 H5 q5 B5 => ⟨s5, HF5, q5, B5.1, f14.trans B5.2⟩
  · have e : i = ds.length := by omega
    subst e
    exact .inl ⟨w.stop H2 (B2.2.trans B2.1.same), k.nx s2 σ2 HF2 H2 (fin s2 w2) ⟨B2.1, f2⟩⟩
end
end DL

/-! part DLh -/
namespace DL
open PySem PySem.Spec PyProof.Rows L2

theorem iteT_of {A B : Prop} (h : if true = true then A else B) : A := h
theorem iteF_of {A B : Prop} (h : if false = true then A else B) : B := h
section
variable {K : PySem.W.Frag} {HF : Hp}
/-! ### the walks -/
theorem wk_at {J : It} {xs : List V} {ds : List D} {G : Hp → Prop} (w : Walk J xs.length G (YAt xs)) (r : Rps K HF xs ds) (hG : ∀ H, Same HF H → G H) : Wk K J ds HF where
  go := fun i H hi e => w.goes i H (by rw [r.length]; exact hi) (hG H e)
  stop := fun H e => by
    have z := w.stops H (hG H e)
    rw [r.length] at z
    exact z
  yld := fun i H x H' hi e y => by
    obtain ⟨z1, z2⟩ := w.yields i H x H' (by rw [r.length]; exact hi) (hG H e) y
    obtain ⟨d, h1, h2⟩ := r.getV z2
    exact .inl ⟨z1, d, h1, h2⟩
theorem wk_fn {J : It} {n : Nat} {f : Nat → Int} (w : Walk J n (fun _ => True) (YFn fun i => .int (f i))) : Wk K J ((List.range n).map fun i => D.int (f i)) HF where
  go := fun i H hi e => w.goes i H (by simpa using hi) trivial
  stop := fun H e => by
    have z := w.stops H trivial
    rw [List.length_map, List.length_range]
    exact z
  yld := fun i H x H' hi e y => by
    have hi : i < n := by simpa using hi
    obtain ⟨z1, z2⟩ := w.yields i H x H' hi trivial y
    subst z2
    exact .inl ⟨z1, .int (f i), by simp [hi], .int _⟩
def zipD (xs ys : List D) : List D := (xs.zip ys).map fun p => .tup [p.1, p.2]
theorem zipD_get {xs ys : List D} {i : Nat} {x y : D} (h1 : xs[i]? = some x) (h2 : ys[i]? = some y) : (zipD xs ys)[i]? = some (.tup [x, y]) := by
  unfold zipD
  rw [List.getElem?_map, (List.getElem?_zip_eq_some (z := (x, y))).mpr ⟨h1, h2⟩]
  rfl
theorem zipD_len (xs ys : List D) : (zipD xs ys).length = min xs.length ys.length := by
  unfold zipD
  rw [List.length_map, List.length_zip]
theorem wk_zipL {a b : Addr} {vs ws : List V} {xs ys : List D} (h1 : SqL K HF a vs) (h2 : SqL K HF b ws) (r1 : Rps K HF vs xs) (r2 : Rps K HF ws ys) : Wk K (Itz K a b) (zipD xs ys) HF where
  go := fun i H hi e => by
    rw [zipD_len] at hi
    have w := walk_zip (K := K) (a := a) (b := b) (xs := vs) (ys := ws) rfl
    exact w.goes i H (by rw [r1.length, r2.length]; exact hi) ⟨e.seq h1, e.seq h2⟩
  stop := fun H e => by
    have w := walk_zip (K := K) (a := a) (b := b) (xs := vs) (ys := ws) rfl
    have z := w.stops H ⟨e.seq h1, e.seq h2⟩
    rw [r1.length, r2.length] at z
    rw [zipD_len]
    exact z
  yld := fun i H x H' hi e y => by
    obtain ⟨T, u, v, z1, z2, z3, z4, z5⟩ := y
    obtain ⟨d, q1, q2⟩ := r1.getV (z4 _ (e.seq h1))
    obtain ⟨d2, q3, q4⟩ := r2.getV (z5 _ (e.seq h2))
    exact .inr ⟨T, u, v, d, d2, z1, z2, z3, zipD_get q1 q3, q2, q4⟩
theorem wk_zipT {a b : Addr} {vs ws : List V} {xs ys : List D} (h1 : SqT K HF a vs) (h2 : SqT K HF b ws) (r1 : Rps K HF vs xs) (r2 : Rps K HF ws ys) : Wk K (RZ.ItzT K a b) (zipD xs ys) HF where
  go := fun i H hi e => by
    rw [zipD_len] at hi
    have l1 : i < vs.length := by rw [r1.length]; omega
    have l2 : i < ws.length := by rw [r2.length]; omega
    exact ⟨vs, ws, vs[i], ws[i], Same.seqT e h1, Same.seqT e h2, by simp [l1], by simp [l2]⟩
  stop := fun H e => ⟨vs, ws, Same.seqT e h1, Same.seqT e h2, by rw [zipD_len, r1.length, r2.length]; omega⟩
  yld := fun i H x H' hi e y => by
    obtain ⟨T, u, v, z1, z2, z3, z4, z5⟩ := y
    obtain ⟨d, q1, q2⟩ := r1.getV (z4 _ (Same.seqT e h1))
    obtain ⟨d2, q3, q4⟩ := r2.getV (z5 _ (Same.seqT e h2))
    exact .inr ⟨T, u, v, d, d2, z1, z2, z3, zipD_get q1 q3, q2, q4⟩
end

section
variable {X : Cx} {tg e e2 : Expr} {ra rb : RE} {rr : RA} {p pos : Pos}
/-- any list or tuple -/
theorem pi_seq {te : TE} (he : PE X e te) : PI X tg e (fun σ H R => te σ H fun x H1 => ∃ a, x = .ref a ∧ ((∃ xs, SqL X.K H1 a xs ∧ R (Itl X.K a) H1) ∨ ∃ xs, SqT X.K H1 a xs ∧ R (Itt X.K a) H1)) := by
  constructor
  intro pins s σ H R I h
  refine thn (he.run pins s σ H _ I h) ?_
  rintro v s1 ⟨x, H1, I1, r1, a, rfl, q⟩
  cases r1
  have fr : ∀ b ∈ [s1.heap.objs.size], FpOk X pins H1 b := by
    intro b hb
    rw [List.mem_singleton.mp hb]
    exact I1.fpOk (Nat.le_refl _) (I1.hok.fresh (Nat.le_refl _))
  rcases q with ⟨xs, hq, q⟩ | ⟨xs, hq, q⟩
  · obtain ⟨its, _, pl, _⟩ := I1.list hq
    exact wpAny_pyIter_list pl.isList ⟨_, _, _, _, H1, rfl, I1.kept (t' := s1.toks) (fun b o z => Heap.get?_push_of_some _ z), turn_list a _, ⟨_, Heap.get?_push_size _ rfl, rfl, rfl⟩, fr, q⟩
  · obtain ⟨its, _, pl, _⟩ := I1.tuple hq
    exact wpAny_pyIter_tuple (show s1.heap.IsTuple a its.toArray from pl) ⟨_, _, _, _, H1, rfl, I1.kept (t' := s1.toks) (fun b o z => Heap.get?_push_of_some _ z), turn_tuple a _, ⟨_, Heap.get?_push_size _ rfl, rfl, rfl⟩, fr, q⟩
def rItems (ra : RE) : RA := fun s Q => ra s fun d s1 => ∃ ds, itemsD d = some ds ∧ Q ds s1
theorem di_seq (he : DE X e ra) : DI X tg e (rItems ra) := by
  refine ⟨PIweak (pi_seq he.pe) fun σ H R ⟨g, s, HF, Rl, Qd, q, k⟩ => ?_⟩
  refine ⟨g, s, HF, Rl, _, q, fun d s1 v HF1 H1 q1 B1 r1 => ?_⟩
  obtain ⟨ds, h1, q1⟩ := q1
  cases r1 with
  | @lst a xs _ h2 r2 =>
    cases h1
    exact ⟨a, rfl, .inl ⟨xs, SqL.of (B1.1.same _ _ h2), k _ s1 _ HF1 H1 q1 B1 (wk_at walk_list r2 fun H e => SqL.of (e _ _ h2))⟩⟩
  | @tup a xs _ h2 r2 =>
    cases h1
    exact ⟨a, rfl, .inr ⟨xs, Same.seqT B1.1.same h2, k _ s1 _ HF1 H1 q1 B1 (wk_at walk_tup r2 fun H e => Same.seqT e h2)⟩⟩
  | @scr a ns h2 =>
    cases h1
    exact ⟨a, rfl, .inl ⟨_, B1.1.same.seq h2, k _ s1 _ HF1 H1 q1 B1 (wk_at walk_list (Rps.ints ns) fun H e => e.seq h2)⟩⟩
  | _ => cases h1
def inR (j : Int) : Prop := -(2 ^ 62) ≤ j ∧ j < 2 ^ 62
def rRng1 (rr : RA) : RA := fun s Q => rr s fun ds s1 => ∃ j, ds = [.int j] ∧ inR j ∧ Q ((List.range j.toNat).map fun i => D.int (0 + (i : Nat))) s1
theorem di_rng1 (hg : Gl X "range") (hm : X.mg "range" = none) (ha : DA X [e] rr) (hs : starEach [e] X.env = [(false, eval e X.env)] := by rfl) : DI X tg (.Call (.Name "range" p) [e] [] pos) (rRng1 rr) := by
  refine ⟨PIweak (pi_range1 hg hm ha.pa hs) fun σ H R ⟨g, s, HF, Rl, Qd, q, k⟩ => ?_⟩
  refine ⟨g, s, HF, Rl, _, q, fun ds s1 vs HF1 H1 q1 B1 r1 => ?_⟩
  obtain ⟨j, rfl, ⟨h1, h2⟩, q1⟩ := q1
  cases r1 with
  | cons a b =>
    cases b
    cases a
    exact ⟨j, rfl, h1, h2, k _ s1 _ HF1 H1 q1 B1 (wk_fn walk_range)⟩
def rRng2 (rr : RA) : RA := fun s Q => rr s fun ds s1 => ∃ i j, ds = [.int i, .int j] ∧ inR i ∧ inR j ∧ Q ((List.range (j - i).toNat).map fun m => D.int (i + (m : Nat))) s1
theorem di_rng2 (hg : Gl X "range") (hm : X.mg "range" = none) (ha : DA X [e, e2] rr) (hs : starEach [e, e2] X.env = [(false, eval e X.env), (false, eval e2 X.env)] := by rfl) (hs2 : starEach [e2] X.env = [(false, eval e2 X.env)] := by rfl) :
    DI X tg (.Call (.Name "range" p) [e, e2] [] pos) (rRng2 rr) := by
  refine ⟨PIweak (pi_range2 hg hm ha.pa hs hs2) fun σ H R ⟨g, s, HF, Rl, Qd, q, k⟩ => ?_⟩
  refine ⟨g, s, HF, Rl, _, q, fun ds s1 vs HF1 H1 q1 B1 r1 => ?_⟩
  obtain ⟨i, j, rfl, ⟨h1, h2⟩, ⟨h3, h4⟩, q1⟩ := q1
  cases r1 with
  | cons a b =>
    cases b with
    | cons b c =>
      cases c
      cases a
      cases b
      exact ⟨i, j, rfl, ⟨h1, h2, h3, h4⟩, k _ s1 _ HF1 H1 q1 B1 (wk_fn walk_range)⟩
/-- reversed(range(n)) -/
def liftRg (K : PySem.W.Frag) (r : S → (Int → Int → S → Prop) → Prop) : L2.St → Hp → (Int → Int → Hp → Prop) → Prop := fun σ H Q => ∃ g s HF, Rel K g s HF σ H ∧ ∃ Qd : Int → Int → S → Prop, r s Qd ∧ ∀ a b s' HF' H', Qd a b s' → Beh K g HF σ s' HF' H' → Q a b H'
def rRevRng (ra : RE) : RA := fun s Q => ra s fun d s1 => ∃ n, d = .int n ∧ inR n ∧ Q ((List.range n.toNat).map fun i => D.int (0 + ((n.toNat : Nat) : Int) - 1 + ((i : Nat) : Int) * (-1))) s1
theorem di_revRng {p2 pos2 : Pos} (hg : Gl X "reversed") (hm : X.mg "reversed" = none) (hg2 : Gl X "range") (hm2 : X.mg "range" = none) (ha : DE X e ra) (na : starEach [e] X.env = (false, eval e X.env) :: starEach [] X.env := by rfl)
    (hs : starEach [.Call (.Name "range" p2) [e] [] pos2] X.env = (false, eval (.Call (.Name "range" p2) [e] [] pos2) X.env) :: starEach [] X.env := by rfl) : DI X tg (.Call (.Name "reversed" p) [.Call (.Name "range" p2) [e] [] pos2] [] pos) (rRevRng ra) := by
  refine ⟨PIweak (pi_revR hg hm (prg_1 hg2 hm2 ha.pe na) hs) fun σ H R ⟨g, s, HF, Rl, Qd, q, k⟩ => ?_⟩
  refine ⟨g, s, HF, Rl, _, q, fun d s1 v HF1 H1 q1 B1 r1 => ?_⟩
  obtain ⟨n, rfl, ⟨h1, h2⟩, q1⟩ := q1
  cases r1
  refine ⟨n, rfl, by decide, by decide, h1, h2, ?_⟩
  have e0 : n - 0 = n := Int.sub_zero n
  rw [e0]
  exact k _ s1 _ HF1 H1 q1 B1 (wk_fn walk_rangeC)
def rZip (rr : RA) : RA := fun s Q => rr s fun ds s1 => ∃ d1 d2 xs ys, ds = [d1, d2] ∧ ((d1 = .lst xs ∧ d2 = .lst ys) ∨ (d1 = .tup xs ∧ d2 = .tup ys)) ∧ Q (zipD xs ys) s1
theorem di_zip {tpos : Pos} {elts : List Expr} {kk : Nat} (hg : Gl X "zip") (hm : X.mg "zip" = none) (ha : DA X [e, e2] rr) (hs : starEach [e, e2] X.env = (false, eval e X.env) :: starEach [e2] X.env := by rfl) (hpl : (backTo pos (starEach [e2] X.env)).any (·.1) = false := by rfl) :
    DI X (.Tuple elts kk tpos) (.Call (.Name "zip" p) [e, e2] [] pos) (rZip rr) := by
  refine ⟨PIweak (RZ.pi_zipA hg hm ha.pa hs hpl) fun σ H R ⟨g, s, HF, Rl, Qd, q, k⟩ => ?_⟩
  refine ⟨g, s, HF, Rl, _, q, fun ds s1 vs HF1 H1 q1 B1 r1 => ?_⟩
  obtain ⟨d1, d2, xs, ys, rfl, hd, q1⟩ := q1
  cases r1 with
  | cons a b =>
    cases b with
    | cons b c =>
      cases c
      rcases hd with ⟨rfl, rfl⟩ | ⟨rfl, rfl⟩
      · cases a with
        | lst a1 a2 =>
          cases b with
          | lst b1 b2 => exact ⟨_, _, _, _, rfl, .inl ⟨SqL.of (B1.1.same _ _ a1), SqL.of (B1.1.same _ _ b1), k _ s1 _ HF1 H1 q1 B1 (wk_zipL (SqL.of a1) (SqL.of b1) a2 b2)⟩⟩
      · cases a with
        | tup a1 a2 =>
          cases b with
          | tup b1 b2 => exact ⟨_, _, _, _, rfl, .inr ⟨Same.seqT B1.1.same a1, Same.seqT B1.1.same b1, k _ s1 _ HF1 H1 q1 B1 (wk_zipT a1 b1 a2 b2)⟩⟩

/-! ### comprehensions -/
def wipeL (l : List Sl) : List Nat → List Sl
  | [] => l
  | v :: vs => (wipeL l vs).set v .no
theorem wipeL_len (l : List Sl) : ∀ vs : List Nat, (wipeL l vs).length = l.length
  | [] => rfl
  | v :: vs => by
    show ((wipeL l vs).set v .no).length = _
    rw [List.length_set, wipeL_len l vs]
/-- no list of its own in these slots -/
def noOwn (l : List Sl) (vs : List Nat) : Bool := vs.all fun i => match l[i]? with
  | some (.own _) => false
  | _ => true
theorem wipeL_at {l : List Sl} {i : Nat} {x : Sl} : ∀ {vs : List Nat}, (wipeL l vs)[i]? = some x → (i ∈ vs ∧ x = .no) ∨ (i ∉ vs ∧ l[i]? = some x)
  | [], h => .inr ⟨by simp, h⟩
  | v :: vs, h => by
    have h : ((wipeL l vs).set v .no)[i]? = some x := h
    by_cases hv : v = i
    · subst hv
      have hl : v < (wipeL l vs).length := by
        have z := (List.getElem?_eq_some_iff.mp h).1
        rwa [List.length_set] at z
      rw [List.getElem?_set_self hl] at h
      cases h
      exact .inl ⟨by simp, rfl⟩
    · rw [List.getElem?_set_ne hv] at h
      rcases wipeL_at h with ⟨h1, h2⟩ | ⟨h1, h2⟩
      · exact .inl ⟨by simp [h1], h2⟩
      · refine .inr ⟨?_, h2⟩
        intro z
        rcases List.mem_cons.mp z with z | z
        · exact hv z.symm
        · exact h1 z
theorem wipe_at {σ : L2.St} {i : Nat} : ∀ {vs : List Nat}, i ∉ vs → (wipe σ vs)[i]? = σ[i]? := fun h => L2.wipe_out h
theorem wipe_len (σ : L2.St) (vs : List Nat) : (wipe σ vs).length = σ.length := L2.wipe_length σ vs
section
variable {K : PySem.W.Frag} {g HF H : Hp} {m m' : M} {l : List Sl} {σ : L2.St} {vs : List Nat}
/-- the comprehension's own slots forgotten -/
theorem Rel.wiped (R : Rel K g ⟨m, l⟩ HF σ H) : Rel K g ⟨m, wipeL l vs⟩ HF (wipe σ vs) H where
  same := R.same
  out := R.out
  mok := R.mok
  len := by
    show (wipe σ vs).length = (wipeL l vs).length
    rw [wipe_len, wipeL_len]
    exact R.len
  slots := fun i x e => by
    have e : (wipeL l vs)[i]? = some x := e
    rcases wipeL_at e with ⟨h1, rfl⟩ | ⟨h1, h2⟩
    · have hl : i < (wipe σ vs).length := by
        have z := (List.getElem?_eq_some_iff.mp e).1
        rw [wipeL_len] at z
        rw [wipe_len, R.len]
        exact z
      exact ⟨_, List.getElem?_eq_getElem hl, trivial⟩
    · obtain ⟨o, z1, z2⟩ := R.slots i x h2
      exact ⟨o, by rw [wipe_at h1]; exact z1, z2⟩
  apart := fun i j di dj a h1 h2 h3 h4 => by
    have h1 : (wipeL l vs)[i]? = some (.own di) := h1
    have h2 : (wipeL l vs)[j]? = some (.own dj) := h2
    rcases wipeL_at h1 with ⟨_, z⟩ | ⟨n1, e1⟩
    · cases z
    · rcases wipeL_at h2 with ⟨_, z⟩ | ⟨n2, e2⟩
      · cases z
      · rw [wipe_at n1] at h3
        rw [wipe_at n2] at h4
        exact R.apart i j di dj a e1 e2 h3 h4
/-- .. and back again -/
theorem Rel.unwiped {HF0 H0 : Hp} {m0 : M} (R0 : Rel K g ⟨m0, l⟩ HF0 σ H0) (R : Rel K g ⟨m, wipeL l vs⟩ HF (wipe σ vs) H) (e : Same HF0 HF) (no : noOwn l vs = true) : Rel K g ⟨m, l⟩ HF σ H where
  same := R.same
  out := R.out
  mok := R.mok
  len := R0.len
  slots := fun i x h => by
    have h : l[i]? = some x := h
    obtain ⟨o, z1, z2⟩ := R0.slots i x h
    refine ⟨o, z1, ?_⟩
    by_cases hi : i ∈ vs
    · cases x with
      | no => trivial
      | val d =>
        obtain ⟨v, e1, e2⟩ := z2
        exact ⟨v, e1, e2.mono e⟩
      | own ds =>
        have w := List.all_eq_true.mp no i hi
        rw [h] at w
        cases w
    · have hw : (wipeL l vs)[i]? = some x := by
        have key : ∀ {ws : List Nat}, i ∉ ws → (wipeL l ws)[i]? = l[i]? := by
          intro ws
          induction ws with
          | nil => intro _; rfl
          | cons w ws ih =>
            intro hn
            show ((wipeL l ws).set w .no)[i]? = _
            rw [List.getElem?_set_ne (fun z => hn (by simp [z])), ih fun z => hn (by simp [z])]
        rw [key hi]
        exact h
      obtain ⟨o', w1, w2⟩ := R.slots i x hw
      rw [wipe_at hi, z1] at w1
      cases w1
      exact w2
  apart := R0.apart
/-- what others hold there changes -/
theorem Rel.gset {s : S} {D : Addr} {o o' : HO} (R : Rel K (upd g D o) s HF σ H) (hf : HF D = none) : Rel K (upd g D o') s HF σ (upd H D o') where
  same := fun b u e => by
    rw [upd_ne (ne_of_none e hf)]
    exact R.same b u e
  out := fun b u e => by
    by_cases hb : b = D
    · subst hb
      rw [upd_same] at e ⊢
      obtain ⟨_, z2, z3⟩ := R.out b o upd_same
      exact ⟨e, z2, z3⟩
    · rw [upd_ne hb] at e ⊢
      exact R.out b u (by rw [upd_ne hb]; exact e)
  mok := fun b u e => by
    have hb : b ≠ D := fun z => by
      subst z
      rw [(R.out b o upd_same).2.2] at e
      cases e
    obtain ⟨h1, h2⟩ := R.mok b u e
    exact ⟨h1, h2.mono (Same.refl _) fun u e => by rw [upd_ne hb]; exact e⟩
  len := R.len
  slots := fun i x e => by
    obtain ⟨ov, h1, h2⟩ := R.slots i x e
    refine ⟨ov, h1, ?_⟩
    cases x with
    | no => trivial
    | val d => exact h2
    | own ds =>
      obtain ⟨a, vs, e1, q4, r, q1, q2, q3⟩ := h2
      have hb : a ≠ D := fun z => by
        rw [z, upd_same] at q3
        cases q3
      exact ⟨a, vs, e1, by rw [upd_ne hb]; exact q4, r, q1, q2, by rw [upd_ne hb] at q3 ⊢; exact q3⟩
  apart := R.apart
end
/-- a comprehension's tests -/
structure DTs (X : Cx) (ifs : List Expr) (r : RT) : Prop where
  pts : PTs X ifs (liftT X.K r)
def rYes : RT := fun s Q => Q true s
theorem PTsweak {ifs : List Expr} {t t' : TT} (h : PTs X ifs t) (w : ∀ σ H Q, t' σ H Q → t σ H Q) : PTs X ifs t' := ⟨fun pins s σ H Q I q => h.run pins s σ H Q I (w σ H Q q)⟩
theorem dts_nil : DTs X [] rYes := ⟨PTsweak pts_nil fun σ H Q ⟨g, s, HF, R, Qd, q, k⟩ => k true s HF H q (.rfl' R)⟩
theorem dts_one {c : Expr} {rt : RT} (h : DT X c rt) : DTs X [c] rt := ⟨pts_one h.pt⟩
def rLc (ri : RA) (gt : RG) (rt : RT) (re : RE) (vs : List Nat) : RA := fun s Q => ri s fun ds s1 => noOwn s1.sl vs = true ∧ ∃ W : Nat → List D → M → Prop, W 0 [] s1.m ∧
  (∀ i d acc m', ds[i]? = some d → W i acc m' → gt d ⟨m', wipeL s1.sl vs⟩ fun s2 => rt s2 fun b s3 => if b = true then re s3 fun y s4 => wipeL s4.sl vs = wipeL s1.sl vs ∧ acc.length < sizeLine ∧ W (i + 1) (acc ++ [y]) s4.m else wipeL s3.sl vs = wipeL s1.sl vs ∧ W (i + 1) acc s3.m) ∧
  ∀ acc m', W ds.length acc m' → Q acc { s1 with m := m' }
theorem wipe_get {σ : L2.St} {i : Nat} : ∀ vs : List Nat, (wipe σ vs)[i]? = if i ∈ vs then σ[i]?.map fun _ => none else σ[i]?
  | [] => by
    rw [if_neg (by simp)]
    rfl
  | v :: vs => by
    show ((wipe σ vs).set v none)[i]? = _
    have ih := wipe_get (σ := σ) (i := i) vs
    by_cases hv : v = i
    · subst hv
      rw [if_pos (by simp)]
      by_cases hl : v < σ.length
      · rw [List.getElem?_set_self (by rw [wipe_len]; exact hl), List.getElem?_eq_getElem hl]
        rfl
      · rw [List.getElem?_eq_none (by rw [List.length_set, wipe_len]; omega), List.getElem?_eq_none (by omega)]
        rfl
    · rw [List.getElem?_set_ne hv, ih]
      by_cases hi : i ∈ vs
      · rw [if_pos hi, if_pos (by simp [hi])]
      · rw [if_neg hi, if_neg (by simp only [List.mem_cons, not_or]; exact ⟨fun z => hv z.symm, hi⟩)]
theorem wipe_wipe (σ : L2.St) (vs : List Nat) : wipe (wipe σ vs) vs = wipe σ vs := by
  apply List.ext_getElem?
  intro i
  rw [wipe_get, wipe_get]
  by_cases hi : i ∈ vs
  · rw [if_pos hi, if_pos hi, Option.map_map]
    rfl
  · rw [if_neg hi]
theorem Rel.dropG {K : PySem.W.Frag} {g HF H : Hp} {s : S} {σ : L2.St} {D : Addr} {o : HO} (R : Rel K (upd g D o) s HF σ H) (hg : g D = none) : ∃ H0, H0 D = none ∧ upd H0 D o = H ∧ Rel K g s HF σ H0 := by
  obtain ⟨z1, z2, z3⟩ := R.out D o upd_same
  have at_ : ∀ b, b ≠ D → (if b = D then none else H b) = H b := fun b hb => if_neg hb
  refine ⟨fun b => if b = D then none else H b, if_pos rfl, ?_, ?_⟩
  · funext b
    by_cases hb : b = D
    · subst hb
      rw [upd_same, z1]
    · rw [upd_ne hb]
      exact at_ b hb
  · refine ⟨fun b u e => ?_, fun b u e => ?_, fun b u e => ?_, R.len, fun i x e => ?_, R.apart⟩
    · rw [at_ b (ne_of_none e z2)]
      exact R.same b u e
    · have hb := ne_of_none e hg
      rw [at_ b hb]
      exact R.out b u (by rw [upd_ne hb]; exact e)
    · have hb : b ≠ D := fun z => by
        subst z
        rw [z3] at e
        cases e
      obtain ⟨h1, h2⟩ := R.mok b u e
      exact ⟨h1, h2.mono (Same.refl _) fun u e => by rw [at_ b hb]; exact e⟩
    · obtain ⟨ov, h1, h2⟩ := R.slots i x e
      refine ⟨ov, h1, ?_⟩
      cases x with
      | no => trivial
      | val d => exact h2
      | own ds =>
        obtain ⟨a, vs, e1, q4, r, q1, q2, q3⟩ := h2
        have hb : a ≠ D := fun z => by
          rw [z, upd_same] at q3
          cases q3
        exact ⟨a, vs, e1, (at_ a hb).trans q4, r, q1, q2, by rw [upd_ne hb] at q3; exact q3⟩
/-- the reading of a comprehension, by data -/
theorem lc_w {ri : RA} {gt : RG} {rt : RT} {re : RE} {vs ws : List Nat} (hw : ∀ i ∈ ws, i ∈ vs) {σ : L2.St} {H : Hp} {Q : VK} (h : liftF X.K (rLc ri gt rt re vs) σ H Q) :
    tLc (liftI X.K ri) (liftG X.K ws gt) (liftT X.K rt) (liftE X.K re) vs σ H Q := by
  obtain ⟨g, s, HF, R, Qd, q, k⟩ := h
  refine ⟨g, s, HF, R, _, q, fun ds s1 J HF1 H1 q1 B1 w D hD => ?_⟩
  obtain ⟨no, W, w0, turn, fin⟩ := q1
  obtain ⟨m1, l1⟩ := s1
  have gD : g D = none := B1.1.freshG hD
  refine ⟨fun i n H' => n = ds.length - i ∧ i ≤ ds.length ∧ ∃ acc dacc m' HF', W i dacc m' ∧ Rel X.K (upd g D (.lst acc)) ⟨m', wipeL l1 vs⟩ HF' (wipe σ vs) H' ∧ Same HF1 HF' ∧ Rps X.K HF' acc dacc,
    ⟨ds.length, rfl, Nat.zero_le _, [], [], m1, HF1, w0, (B1.1.wiped).guard hD _, Same.refl _, .nil⟩, ?_⟩
  rintro i n H2 ⟨rfl, hle, acc, dacc, m2, HF2, w2, R2, e2, ra⟩
  by_cases hlt : i < ds.length
  · refine .inr ⟨w.go i H2 hlt (e2.trans R2.same), fun H' => ∃ acc dacc m' HF', W (i + 1) dacc m' ∧ Rel X.K (upd g D (.lst acc)) ⟨m', wipeL l1 vs⟩ HF' (wipe σ vs) H' ∧ Same HF1 HF' ∧ Rps X.K HF' acc dacc, ?_, fun x H3 y => ?_⟩
    · rintro H' ⟨a, b, c, d, z⟩
      exact ⟨ds.length - (i + 1), by omega, rfl, hlt, a, b, c, d, z⟩
    · obtain ⟨d, HF3, hd, B3, r3⟩ := w.turn R2 e2 hlt y
      refine ⟨_, _, HF3, d, B3.1, r3, _, turn i d dacc m2 hd w2, fun s4 σ4 HF4 H4 q4 B4 ws4 => ?_⟩
      have hσ : wipe σ4 vs = wipe σ vs := (ws4 vs hw).trans (wipe_wipe σ vs)
      refine ⟨hσ, _, s4, HF4, B4.1, _, q4, fun b s5 HF5 H5 q5 B5 => ?_⟩
      have e5 : Same HF2 HF5 := (B3.2.trans B4.2).trans B5.2
      cases b with
      | false =>
        obtain ⟨z1, z2⟩ := iteF_of q5
        refine iteF ⟨acc, dacc, s5.m, HF5, z2, ?_, e2.trans e5, ra.mono e5⟩
        have R5 := (show Rel X.K (upd g D (.lst acc)) ⟨s5.m, s5.sl⟩ HF5 σ4 H5 from B5.1).wiped (vs := vs)
        rw [z1, hσ] at R5
        exact R5
      | true =>
        have q5 := iteT_of q5
        refine iteT ⟨_, s5, HF5, B5.1, _, q5, fun y s6 v HF6 H6 q6 B6 r6 => ?_⟩
        obtain ⟨z1, z2, z3⟩ := q6
        obtain ⟨o1, o2, o3⟩ := B6.1.out D _ upd_same
        have e6 : Same HF2 HF6 := e5.trans B6.2
        refine ⟨acc, o1, by rw [ra.length]; exact z2, acc ++ [v], dacc ++ [y], s6.m, HF6, z3, ?_, e2.trans e6, (ra.mono e6).append (.one r6)⟩
        have R6 := ((show Rel X.K (upd g D (.lst acc)) ⟨s6.m, s6.sl⟩ HF6 σ4 H6 from B6.1).gset (o' := .lst (acc ++ [v])) o2).wiped (vs := vs)
        rw [z1, hσ] at R6
        exact R6
  · have e : i = ds.length := by omega
    subst e
    obtain ⟨H0, h1, h2, R0⟩ := R2.dropG gD
    refine .inl ⟨w.stop H2 (e2.trans R2.same), ?_⟩
    rw [← h2]
    exact k dacc _ acc HF2 H0 D (fin dacc m2 w2) ⟨B1.1.unwiped R0 e2 no, B1.2.trans e2⟩ ra h1
theorem df_lc {elt iter : Expr} {ifs : List Expr} {scope : Scope} {own : List (Str × Nat)} {ri : RA} {gt : RG} {rt : RT} {re : RE} {ws : List Nat} (hc : X.calm = true) (hN : X.N.Nodup) (hi : DI X tg iter ri) (ok : BlkOk X.N X.env.scope scope own)
    (hg : ∀ (s : Shared) (H : Hp) (C : Addr) (cl : List (Str × Addr)) (fp : List Addr), DG (X.blk s H scope (compEnvC scope cl C X.env) fp) tg ws gt) (ht : ∀ (s : Shared) (H : Hp) (C : Addr) (cl : List (Str × Addr)) (fp : List Addr), DTs (X.blk s H scope (compEnvC scope cl C X.env) fp) ifs rt)
    (he : ∀ (s : Shared) (H : Hp) (C : Addr) (cl : List (Str × Addr)) (fp : List Addr), DE (X.blk s H scope (compEnvC scope cl C X.env) fp) elt re) (hw : ∀ i ∈ ws, i ∈ own.map (·.2)) (hs : ∀ x, foldedSetIterable iter X.env x = pure x := by intro _; rfl) :
    DF X (.ListComp elt [⟨tg, iter, ifs, 0⟩] scope pos) (rLc ri gt rt re (own.map (·.2))) :=
  ⟨PEweak (pe_lc (g := liftG X.K ws gt) (tt := liftT X.K rt) (te := liftE X.K re) hc hN hi.pi ok (fun s H C cl fp => (hg s H C cl fp).pg) (fun s H C cl fp => (ht s H C cl fp).pts) (fun s H C cl fp => (he s H C cl fp).pe) hs) fun σ H Q h => lc_w hw h⟩
/-- name = [..] -/
theorem ds_setLc {i : Nat} {y : Str} {py spos : Pos} {elt iter : Expr} {ifs : List Expr} {scope : Scope} {own : List (Str × Nat)} {ri : RA} {gt : RG} {rt : RT} {re : RE} {ws : List Nat} (hc : X.calm = true) (hN : X.N.Nodup) (hy : X.N[i]? = some y) (hyl : X.env.scope.names.lookup y = some .local)
    (hsw : swapsWith (.ListComp elt [⟨tg, iter, ifs, 0⟩] scope pos) (some (.Name y py)) spos.line X.env = pure true) (hi : DI X tg iter ri) (ok : BlkOk X.N X.env.scope scope own)
    (hg : ∀ (s : Shared) (H : Hp) (C : Addr) (cl : List (Str × Addr)) (fp : List Addr), DG (X.blk s H scope (compEnvC scope cl C X.env) fp) tg ws gt) (ht : ∀ (s : Shared) (H : Hp) (C : Addr) (cl : List (Str × Addr)) (fp : List Addr), DTs (X.blk s H scope (compEnvC scope cl C X.env) fp) ifs rt)
    (he : ∀ (s : Shared) (H : Hp) (C : Addr) (cl : List (Str × Addr)) (fp : List Addr), DE (X.blk s H scope (compEnvC scope cl C X.env) fp) elt re) (hw : ∀ i ∈ ws, i ∈ own.map (·.2)) (hs : ∀ x, foldedSetIterable iter X.env x = pure x := by intro _; rfl) :
    DS X (.Assign [.Name y py] (.ListComp elt [⟨tg, iter, ifs, 0⟩] scope pos) spos) (rSetF i (rLc ri gt rt re (own.map (·.2)))) := by
  refine ⟨PSweak (ps_setLc (i := i) (g := liftG X.K ws gt) (tt := liftT X.K rt) (te := liftE X.K re) hc hN hy hyl hsw hi.pi ok (fun s H C cl fp => (hg s H C cl fp).pg) (fun s H C cl fp => (ht s H C cl fp).pts) (fun s H C cl fp => (he s H C cl fp).pe) hs) fun E σ H ⟨g, s, HF, R, Dd, q, k⟩ => ?_⟩
  exact lc_w hw ⟨g, s, HF, R, _, q, fun ds s1 vs HF1 H1 p q1 B1 r1 hp => k.nx _ _ HF1 _ q1 ⟨B1.1.putOwn i hp r1, B1.2⟩⟩
theorem df_lcV {elt iter : Expr} {ifs : List Expr} {scope : Scope} {own : List (Str × Nat)} {ri : RA} {gt : RG} {rt : RT} {re : RE} {ws vs : List Nat} (hv : own.map (·.2) = vs) (hc : X.calm = true) (hN : X.N.Nodup) (hi : DI X tg iter ri) (ok : BlkOk X.N X.env.scope scope own)
    (hg : ∀ (s : Shared) (H : Hp) (C : Addr) (cl : List (Str × Addr)) (fp : List Addr), DG (X.blk s H scope (compEnvC scope cl C X.env) fp) tg ws gt) (ht : ∀ (s : Shared) (H : Hp) (C : Addr) (cl : List (Str × Addr)) (fp : List Addr), DTs (X.blk s H scope (compEnvC scope cl C X.env) fp) ifs rt)
    (he : ∀ (s : Shared) (H : Hp) (C : Addr) (cl : List (Str × Addr)) (fp : List Addr), DE (X.blk s H scope (compEnvC scope cl C X.env) fp) elt re) (hw : ∀ i ∈ ws, i ∈ own.map (·.2)) (hs : ∀ x, foldedSetIterable iter X.env x = pure x := by intro _; rfl) :
    DF X (.ListComp elt [⟨tg, iter, ifs, 0⟩] scope pos) (rLc ri gt rt re vs) := by
  subst hv
  exact
  ⟨PEweak (pe_lc (g := liftG X.K ws gt) (tt := liftT X.K rt) (te := liftE X.K re) hc hN hi.pi ok (fun s H C cl fp => (hg s H C cl fp).pg) (fun s H C cl fp => (ht s H C cl fp).pts) (fun s H C cl fp => (he s H C cl fp).pe) hs) fun σ H Q h => lc_w hw h⟩
theorem ds_setLcV {i : Nat} {y : Str} {py spos : Pos} {elt iter : Expr} {ifs : List Expr} {scope : Scope} {own : List (Str × Nat)} {ri : RA} {gt : RG} {rt : RT} {re : RE} {ws vs : List Nat} (hv : own.map (·.2) = vs) (hc : X.calm = true) (hN : X.N.Nodup) (hy : X.N[i]? = some y) (hyl : X.env.scope.names.lookup y = some .local)
    (hsw : swapsWith (.ListComp elt [⟨tg, iter, ifs, 0⟩] scope pos) (some (.Name y py)) spos.line X.env = pure true) (hi : DI X tg iter ri) (ok : BlkOk X.N X.env.scope scope own)
    (hg : ∀ (s : Shared) (H : Hp) (C : Addr) (cl : List (Str × Addr)) (fp : List Addr), DG (X.blk s H scope (compEnvC scope cl C X.env) fp) tg ws gt) (ht : ∀ (s : Shared) (H : Hp) (C : Addr) (cl : List (Str × Addr)) (fp : List Addr), DTs (X.blk s H scope (compEnvC scope cl C X.env) fp) ifs rt)
    (he : ∀ (s : Shared) (H : Hp) (C : Addr) (cl : List (Str × Addr)) (fp : List Addr), DE (X.blk s H scope (compEnvC scope cl C X.env) fp) elt re) (hw : ∀ i ∈ ws, i ∈ own.map (·.2)) (hs : ∀ x, foldedSetIterable iter X.env x = pure x := by intro _; rfl) :
    DS X (.Assign [.Name y py] (.ListComp elt [⟨tg, iter, ifs, 0⟩] scope pos) spos) (rSetF i (rLc ri gt rt re vs)) := by
  subst hv
  refine ⟨PSweak (ps_setLc (i := i) (g := liftG X.K ws gt) (tt := liftT X.K rt) (te := liftE X.K re) hc hN hy hyl hsw hi.pi ok (fun s H C cl fp => (hg s H C cl fp).pg) (fun s H C cl fp => (ht s H C cl fp).pts) (fun s H C cl fp => (he s H C cl fp).pe) hs) fun E σ H ⟨g, s, HF, R, Dd, q, k⟩ => ?_⟩
  exact lc_w hw ⟨g, s, HF, R, _, q, fun ds s1 vs HF1 H1 p q1 B1 r1 hp => k.nx _ _ HF1 _ q1 ⟨B1.1.putOwn i hp r1, B1.2⟩⟩
end
end DL

/-! part DLi -/
namespace DL
open PySem PySem.Spec PyProof.Rows L2

/-! ### a def by its body -/
def startL (n : Nat) (ds : List D) : List Sl := ds.map Sl.val ++ List.replicate (n - ds.length) Sl.no
theorem Rel.start {K : PySem.W.Frag} {HF H : Hp} {m : M} {vs : List V} {ds : List D} {N : List Str} (hs : Same HF H) (hm : ∀ b o, m b = some o → HF b = none ∧ MOk K HF H b o) (r : Rps K HF vs ds) :
    Rel K (gOf HF m H) ⟨m, startL N.length ds⟩ HF (L2.start N vs) H where
  same := hs
  out := fun b o e => gOf_some e
  mok := hm
  len := by
    show (L2.start N vs).length = (startL N.length ds).length
    unfold L2.start startL
    simp only [List.length_append, List.length_map, List.length_replicate, r.length]
  slots := fun i x e => by
    have e : (startL N.length ds)[i]? = some x := e
    unfold startL at e
    unfold L2.start
    by_cases hi : i < ds.length
    · rw [List.getElem?_append_left (by simpa using hi), List.getElem?_map] at e
      rw [List.getElem?_append_left (by rw [List.length_map, r.length]; exact hi), List.getElem?_map]
      cases hd : ds[i]? with
      | none => rw [hd] at e; cases e
      | some d =>
        rw [hd] at e
        cases e
        obtain ⟨v, h1, h2⟩ := r.get hd
        exact ⟨some v, by rw [h1]; rfl, v, rfl, h2⟩
    · rw [List.getElem?_append_right (by simpa using hi)] at e
      rw [List.getElem?_append_right (by rw [List.length_map, r.length]; omega)]
      rw [List.getElem?_replicate] at e
      split at e
      · rename_i hl
        cases e
        refine ⟨none, ?_, trivial⟩
        rw [List.getElem?_replicate, List.length_map, r.length, if_pos]
        rw [List.length_map] at hl
        exact hl
      · cases e
  apart := fun i j di dj a h1 _ _ _ => by
    have h1 : (startL N.length ds)[i]? = some (.own di) := h1
    unfold startL at h1
    exfalso
    by_cases hi : i < ds.length
    · rw [List.getElem?_append_left (by simpa using hi), List.getElem?_map] at h1
      cases hd : ds[i]? with
      | none => rw [hd] at h1; cases h1
      | some d => rw [hd] at h1; cases h1
    · rw [List.getElem?_append_right (by simpa using hi), List.getElem?_replicate] at h1
      split at h1 <;> cases h1
section
variable {P : Program} {w : World} {K : PySem.W.Frag} {mg : Str → Option Value} {base : Heap}
/-- THE RULE for a def: its body's derivation and what its reading gives -/
theorem okD {x qual : Str} {params : Arguments} {body : List Stmt} {scope : Scope} {f : Addr} {fd : FuncData} {N ps : List Str} {k : Nat} {sp : DSp} (F : FunD K x qual params body scope [] [] f fd) (S : FnScope N ps scope) (hlen : ∀ ds m Qd, sp ds m Qd → ds.length = ps.length)
    (hb : ∀ (cdv : Value) (A : Around) (out : List Env) (s : Shared) (H : Hp) (E : XK), Room k (A.deeper (envOfC qual scope s.heap.objs.size f cdv)) → (A.deeper (envOfC qual scope s.heap.objs.size f cdv)).guards = some [] →
      ∃ r, DSs (cxOf CX0 P w K mg base N qual scope f cdv A out s H E).nox body r ∧ ∀ ds m Qd, sp ds m Qd → r { nx := fun s => Qd .non s.m, rt := Qd } ⟨m, startL N.length ds⟩) :
    FnG P w K mg base CX0 (k + 1) f fd ps (toSp K sp) := by
  obtain ⟨oc, od, dV, kV, doc, pm, an, cdv, ct, osl, rfl, lk, hcd, _, _⟩ := F.ex
  refine fn_ofG lk hcd S (fun vs H Q E h => ?_) (fun A out s H vs Q E hr hg h => ?_)
  · obtain ⟨HF, m, ds, _, _, r, Qd, q, _⟩ := h
    rw [r.length]
    exact hlen ds m Qd q
  · obtain ⟨HF, m, ds, hs, hm, rv, Qd, q, k2⟩ := h
    obtain ⟨r, h1, h2⟩ := hb cdv A out s H E hr hg
    refine ⟨liftS K r, PSs.nox h1.pss, gOf HF m H, _, HF, Rel.start hs hm rv, _, h2 ds m Qd q, ?_⟩
    exact ⟨fun s' σ' HF' H' z B => k2 .non s'.m .non HF' H' z B.2 B.1.same B.1.out B.1.mok .non, fun _ _ _ _ z _ => z.elim, fun _ _ _ _ z _ => z.elim, fun d s' σ' v HF' H' z B r' => k2 d s'.m v HF' H' z B.2 B.1.same B.1.out B.1.mok r'⟩

/-! ### a def of the module by its name -/
structure Ok (P : Program) (w : World) (K : PySem.W.Frag) (mg : Str → Option Value) (base : Heap) (x : Str) (st : Stmt) (ps : List Str) (k : Nat) (sp : DSp) : Prop where
  mgx : mg x = some (.ref (He.ga K x))
  go : ∃ fd, FunD K x x (defArgs st) (defBody st) (defScope st) [] [] (He.ga K x) fd ∧ FnG P w K mg base CX0 k (He.ga K x) fd ps (toSp K sp)
/-- what stands behind the top of one def -/
structure At (K : PySem.W.Frag) (mg : Str → Option Value) (x : Str) (st : Stmt) : Prop where
  mgx : mg x = some (.ref (He.ga K x))
  fn : ∃ fd, FunD K x x (defArgs st) (defBody st) (defScope st) [] [] (He.ga K x) fd
theorem ok_of {x : Str} {st : Stmt} {N ps : List Str} {k : Nat} {sp : DSp} (T : At K mg x st) (S : FnScope N ps (defScope st)) (hlen : ∀ ds m Qd, sp ds m Qd → ds.length = ps.length)
    (hb : ∀ (cdv : Value) (A : Around) (out : List Env) (s : Shared) (H : Hp) (E : XK), Room k (A.deeper (envOfC x (defScope st) s.heap.objs.size (He.ga K x) cdv)) → (A.deeper (envOfC x (defScope st) s.heap.objs.size (He.ga K x) cdv)).guards = some [] →
      ∃ r, DSs (cxOf CX0 P w K mg base N x (defScope st) (He.ga K x) cdv A out s H E).nox (defBody st) r ∧ ∀ ds m Qd, sp ds m Qd → r { nx := fun s => Qd .non s.m, rt := Qd } ⟨m, startL N.length ds⟩) : Ok P w K mg base x st ps (k + 1) sp := by
  obtain ⟨fd, F⟩ := T.fn
  exact ⟨T.mgx, fd, F, okD F S hlen hb⟩
end
/-- how all parameters by place bind -/
def BindsAll (x : Str) (st : Stmt) (ps : List Str) : Prop := ∀ (kV doc pm : Value) (an : Option Addr) (cdv ct : Value) (us : List Value), us.length = ps.length → bindArgs (PySem.W.fnOf x x (defArgs st) (defBody st) (defScope st) .none kV doc pm an cdv ct) ⟨us, []⟩ = pure (ps.zip us)
def BindsKw (x : Str) (st : Stmt) (ps : List Str) (n : Nat) (ks : List Str) (idx : List Nat) : Prop := ∀ (kV doc pm : Value) (an : Option Addr) (cdv ct : Value) (us ws : List Value), us.length = n → ws.length = ks.length →
  bindArgs (PySem.W.fnOf x x (defArgs st) (defBody st) (defScope st) .none kV doc pm an cdv ct) ⟨us, ks.zip ws⟩ = pure (ps.zip (us ++ idx.filterMap (ws[·]?)))
section
variable {X : Cx} {k j : Nat} {sp : DSp} {x : Str} {st : Stmt} {ps : List Str} {p pos : Pos} {e : Expr} {es : List Expr} {rr rk : RA} {kws : List Keyword}
theorem cl (h : Ok X.prog X.w X.K X.mg X.base x st ps j sp) (b : BindsAll x st ps) (hr : Room k X.A) (hgd : X.A.guards = some []) (ha : DA X (e :: es) rr) (hj : j ≤ k := by decide) (hg : Gl X x := by rfl)
    (hdb : (x == ("__debug__" : Str)) = false := by decide) (he : starEach (e :: es) X.env = (false, eval e X.env) :: starEach es X.env := by rfl) (hpl : (backTo pos (starEach es X.env)).any (·.1) = false := by rfl) :
    DE X (.Call (.Name x p) (e :: es) [] pos) (rCall sp rr) := by
  obtain ⟨m, fd, F, G⟩ := h
  exact de_call G (hr.mono hj) hgd hg m F.kp (FunD.bindsN F b) ha hdb he hpl
theorem cl0 (h : Ok X.prog X.w X.K X.mg X.base x st [] j sp) (b : BindsAll x st []) (hr : Room k X.A) (hgd : X.A.guards = some []) (hj : j ≤ k := by decide) (hg : Gl X x := by rfl) (hdb : (x == ("__debug__" : Str)) = false := by decide) :
    DE X (.Call (.Name x p) [] [] pos) (rCall sp rNil) := by
  obtain ⟨m, fd, F, G⟩ := h
  exact de_call0 G (hr.mono hj) hgd hg m F.kp (FunD.bindsN F b) hdb
theorem kwb {K : PySem.W.Frag} {f : Addr} {fd : FuncData} {n : Nat} {ks : List Str} {idx : List Nat} (F : FunD K x x (defArgs st) (defBody st) (defScope st) [] [] f fd) (b : BindsKw x st ps n ks idx) : KwB K fd ps n ks idx := by
  obtain ⟨oc, od, dV, kV, doc, pm, an, cdv, ct, osl, rfl, lk, hcd, hD, _⟩ := F.ex
  rcases hD with ⟨_, rfl⟩ | ⟨e, _⟩
  · exact fun s us ws _ h1 h2 => .of_eq (b kV doc pm an cdv ct us ws h1 h2)
  · exact absurd rfl e
theorem clK {n : Nat} {ks : List Str} {idx : List Nat} (h : Ok X.prog X.w X.K X.mg X.base x st ps j sp) (b : BindsKw x st ps n ks idx) (hr : Room k X.A) (hgd : X.A.guards = some []) (ha : DA X (e :: es) rr) (hkw : DK X kws rk) (hj : j ≤ k := by decide) (hg : Gl X x := by rfl)
    (hall : (backToKw pos (keywordEach kws X.env)).all (·.1.isSome) = true := by rfl) (hks : (backToKw pos (keywordEach kws X.env)).filterMap (·.1) = ks := by rfl)
    (hdb : (x == ("__debug__" : Str)) = false := by decide) (he : starEach (e :: es) X.env = (false, eval e X.env) :: starEach es X.env := by rfl)
    (hpl : ((backTo pos (starEach (e :: es) X.env)).any (·.1) || (backToKw pos (keywordEach kws X.env)).any (·.1.isNone)) = false := by rfl) :
    DE X (.Call (.Name x p) (e :: es) kws pos) (rCallK sp n ks.length idx rr rk) := by
  obtain ⟨m, fd, F, G⟩ := h
  exact de_callK G (hr.mono hj) hgd hg m F.kp (kwb F b) ha hkw hall hks hdb he hpl
theorem clK0 {ks : List Str} {idx : List Nat} (h : Ok X.prog X.w X.K X.mg X.base x st ps j sp) (b : BindsKw x st ps 0 ks idx) (hr : Room k X.A) (hgd : X.A.guards = some []) (hkw : DK X kws rk) (hj : j ≤ k := by decide) (hg : Gl X x := by rfl)
    (hall : (backToKw pos (keywordEach kws X.env)).all (·.1.isSome) = true := by rfl) (hks : (backToKw pos (keywordEach kws X.env)).filterMap (·.1) = ks := by rfl)
    (hdb : (x == ("__debug__" : Str)) = false := by decide) (hpl : ((backTo pos (starEach [] X.env)).any (·.1) || (backToKw pos (keywordEach kws X.env)).any (·.1.isNone)) = false := by rfl) :
    DE X (.Call (.Name x p) [] kws pos) (rCallK sp 0 ks.length idx rNil rk) := by
  obtain ⟨m, fd, F, G⟩ := h
  exact de_callK0 G (hr.mono hj) hgd hg m F.kp (kwb F b) hkw hall hks hdb hpl
end

/-! ### more of one kind -/
section
variable {X : Cx} {a e e2 : Expr} {ra rb : RE} {rr : RA} {p pos : Pos}
def isNonB : D → Bool
  | .non => true
  | _ => false
/-- x is None, x is not None -/
def rIsNone (neg : Bool) (ra : RE) : RE := fun s Q => ra s fun d s1 => noH d = true ∧ Q (.bl (if neg then !isNonB d else isNonB d)) s1
theorem rpt_non {K : PySem.W.Frag} {HF H : Hp} {v : V} {d : D} (r : RpT K HF H v d) (h : noH d = true) : decide (v = .non) = isNonB d := by
  rcases r with r | ⟨p, vs, ds, rfl, rfl, _, _⟩
  · cases r <;> first | rfl | cases h
  · rfl
theorem de_isN {j pos'} (ha : DP X a ra) : DE X (.Compare a [.Is] [.Constant .none j pos'] pos) (rIsNone false ra) := by
  refine ⟨PEweak (pe_cmp (pc_isN ha.pe) rfl) fun σ H Q ⟨g, s, HF, R, Qd, q, k⟩ => ?_⟩
  refine ⟨g, s, HF, R, _, q, fun d s1 v HF1 H1 q1 B1 r1 => ?_⟩
  obtain ⟨hn, q1⟩ := q1
  show Q (.bl (decide (v = .non))) H1
  rw [rpt_non r1 hn]
  exact k _ s1 _ HF1 H1 q1 B1 (.bl _)
theorem de_notN {j pos'} (ha : DP X a ra) : DE X (.Compare a [.IsNot] [.Constant .none j pos'] pos) (rIsNone true ra) := by
  refine ⟨PEweak (pe_cmp (pc_notN ha.pe) rfl) fun σ H Q ⟨g, s, HF, R, Qd, q, k⟩ => ?_⟩
  refine ⟨g, s, HF, R, _, q, fun d s1 v HF1 H1 q1 B1 r1 => ?_⟩
  obtain ⟨hn, q1⟩ := q1
  show Q (.bl (!decide (v = .non))) H1
  rw [rpt_non r1 hn]
  exact k _ s1 _ HF1 H1 q1 B1 (.bl _)
/-- x is True, x is not True -/
def dIsB : DO2
  | .bl a, .bl b, Q => Q (.bl (decide (a = b)))
  | _, _, _ => False
def dNotB : DO2
  | .bl a, .bl b, Q => Q (.bl (!decide (a = b)))
  | _, _, _ => False
theorem does_isB : Does X (compareOp .Is) dIsB := by
  refine ⟨_, op_isBl, fun g s HF σ H x y d1 d2 Qd Q R r1 r2 h q => ?_⟩
  unfold dIsB at h
  split at h
  · cases r1
    cases r2
    exact ⟨_, _, rfl, rfl, q _ _ HF H h (.rfl' R) (.bl _)⟩
  · exact h.elim
theorem does_notB : Does X (compareOp .IsNot) dNotB := by
  refine ⟨_, op_notBl, fun g s HF σ H x y d1 d2 Qd Q R r1 r2 h q => ?_⟩
  unfold dNotB at h
  split at h
  · cases r1
    cases r2
    exact ⟨_, _, rfl, rfl, q _ _ HF H h (.rfl' R) (.bl _)⟩
  · exact h.elim
/-- an expression whose value is a bool, as a test, whatever it is -/
theorem dt_val (ha : DE X a ra) (he : ∀ whole, isTrue a X.env whole = (do let v ← whole; standAt a.pos; holding [v] (truthy v)) := by intro _; rfl) : DT X a (rTru ra) := dt_tru (dp_of ha) he
/-- a built-in function of two values -/
def Does2 (X : Cx) (f : Value) (dc : DO2) : Prop := ∃ r : List V → Hp → VK → Prop, CallR X f r ∧
  ∀ (g : Hp) (s : S) (HF : Hp) (σ : L2.St) (H : Hp) (x y : V) (d1 d2 : D) (Qd : D → Prop) (Q : VK), Rel X.K g s HF σ H → Rp X.K HF x d1 → Rp X.K HF y d2 → dc d1 d2 Qd →
    (∀ d v HF' H', Qd d → Beh X.K g HF σ s HF' H' → Rp X.K HF' v d → Q v H') → r [x, y] H Q
theorem two_w {r : List V → Hp → VK → Prop} {dc : DO2} (hd : ∀ (g : Hp) (s : S) (HF : Hp) (σ : L2.St) (H : Hp) (x y : V) (d1 d2 : D) (Qd : D → Prop) (Q : VK), Rel X.K g s HF σ H → Rp X.K HF x d1 → Rp X.K HF y d2 → dc d1 d2 Qd →
    (∀ d v HF' H', Qd d → Beh X.K g HF σ s HF' H' → Rp X.K HF' v d → Q v H') → r [x, y] H Q) {σ : L2.St} {H : Hp} {Q : VK} (h : liftE X.K (rBin dc ra rb) σ H Q) : tCB r (tCons (liftE X.K ra) (tCons (liftE X.K rb) tNil)) σ H Q := by
  obtain ⟨g, s, HF, R, Qd, q, k⟩ := h
  refine ⟨g, s, HF, R, _, q, fun d1 s1 x HF1 H1 q1 B1 r1 => ⟨g, s1, HF1, B1.1, _, q1, fun d2 s2 y HF2 H2 q2 B2 r2 => ?_⟩⟩
  exact hd g s2 HF2 σ H2 x y d1 d2 _ Q B2.1 (r1.mono B2.2) r2 q2 fun d v HF3 H3 q3 B3 r3 => k d s2 v HF3 H3 q3 ((B1.step B2).step B3) r3
theorem de_call2 {x : Str} {id : String} {dc : DO2} (hc : Does2 X (.builtin id) dc) (hg : Gl X x) (hm : X.mg x = none) (hv : bootBuiltins x = some (.builtin id)) (ha : DE X e ra) (hb : DE X e2 rb) (hn : x ≠ "__name__" := by decide) (hdb : (x == ("__debug__" : Str)) = false := by decide)
    (he2 : starEach [e2] X.env = (false, eval e2 X.env) :: starEach [] X.env := by rfl) (he : starEach [e, e2] X.env = (false, eval e X.env) :: starEach [e2] X.env := by rfl) (hpl : (backTo pos (starEach [e2] X.env)).any (·.1) = false := by rfl) :
    DE X (.Call (.Name x p) [e, e2] [] pos) (rBin dc ra rb) := by
  obtain ⟨r, h1, h2⟩ := hc
  exact ⟨PEweak (pe_callB h1 hg hm hv (pa_cons ha.pe (pa_cons hb.pe pa_nil he2) he) hn hdb he hpl) fun σ H Q h => two_w h2 h⟩
/-- f of two values, f a module's name for a built-in function -/
theorem de_callG2 {x : Str} {id : String} {dc : DO2} (hc : Does2 X (.builtin id) dc) (hg : Gl X x) (hm : X.mg x = some (.builtin id)) (ha : DE X e ra) (hb : DE X e2 rb) (hdb : (x == ("__debug__" : Str)) = false := by decide)
    (he2 : starEach [e2] X.env = (false, eval e2 X.env) :: starEach [] X.env := by rfl) (he : starEach [e, e2] X.env = (false, eval e X.env) :: starEach [e2] X.env := by rfl) (hpl : (backTo pos (starEach [e2] X.env)).any (·.1) = false := by rfl) :
    DE X (.Call (.Name x p) [e, e2] [] pos) (rBin dc ra rb) := by
  obtain ⟨r, h1, h2⟩ := hc
  exact ⟨PEweak (pe_callBfun h1 hg hm (pa_cons ha.pe (pa_cons hb.pe pa_nil he2) he) hdb he hpl) fun σ H Q h => two_w h2 h⟩
def dGcd : DO2
  | .int a, .int b, Q => Q (.int ((Nat.gcd a.natAbs b.natAbs : Nat) : Int))
  | _, _, _ => False
theorem does_gcd : Does2 X (.builtin "math.gcd") dGcd := by
  refine ⟨_, cr_gcd, fun g s HF σ H x y d1 d2 Qd Q R r1 r2 h q => ?_⟩
  unfold dGcd at h
  split at h
  · cases r1
    cases r2
    exact ⟨_, _, rfl, q _ _ HF H h (.rfl' R) (.int _)⟩
  · exact h.elim
def CDivM (j : Int) : Prop := 0 < j ∧ j.natAbs.log2 < 9000
def dDivmod : DO2
  | .int i, .int j, Q => CDivM j ∧ Q (.tup [.int (i / j), .int (i % j)])
  | _, _, _ => False
theorem call_divmodW : CallR X (.builtin "divmod") (fun xs H Q => ∃ i j, xs = [.int i, .int j] ∧ CDivM j ∧ ∀ p, H p = none → Q (.ref p) (upd H p (.tup [.int (i / j), .int (i % j)]))) := by
  intro pins s σ H xs us Q I r h
  obtain ⟨i, j, rfl, ⟨h1, h2⟩, q⟩ := h
  obtain ⟨u, v, rfl, ⟨t, rfl⟩, ⟨t', rfl⟩⟩ := vals2 r
  refine divmod_int (by omega) ?_ (.inl (PyProof.noPylong_of_log2 h2))
  have h0 : (0 : Int) ≤ j := Int.le_of_lt h1
  have fr := I.hok.fresh (Nat.le_refl s.heap.objs.size)
  rw [Int.fmod_eq_emod_of_nonneg i h0, Int.fdiv_eq_ediv_of_nonneg i h0]
  refine ⟨.ref s.heap.objs.size, _, I.laid (fun b o z => Heap.get?_push_of_some _ z) (Nat.le_refl _) ?_, rfl, q _ fr⟩
  exact ⟨by show 2 ≤ sizeLine; decide, [.int (i / j) s.toks, .int (i % j) (s.toks + 1)], .cons ⟨_, rfl⟩ (.cons ⟨_, rfl⟩ .nil), _, Heap.get?_push_size s.heap rfl, rfl, 0, rfl⟩
theorem does_divmod : Does2 X (.builtin "divmod") dDivmod := by
  refine ⟨_, call_divmodW, fun g s HF σ H x y d1 d2 Qd Q R r1 r2 h q => ?_⟩
  unfold dDivmod at h
  split at h
  · cases r1
    cases r2
    exact ⟨_, _, rfl, h.1, fun p hp => q _ _ _ _ h.2 (frz2 R hp _) (.tup (SqT.of upd_same) (.cons (.int _) (.cons (.int _) .nil)))⟩
  · exact h.elim
end

/-! ### the end of a law -/
def spEnd : DSp := fun ds m Q => ∃ ns : List Int, ds = [.scr ns] ∧ ns.length ≤ 63 ∧ (∀ b, m b = none) ∧ ∀ m', Q (.bl true) m'
theorem end_call {P : Program} {w : World} {K : PySem.W.Frag} {mg mb : Str → Option Value} {k : Nat} {fa a : Addr} {fd : FuncData} {x : Str} {s1 : Shared} {vs : List Value} {ns : List Int} (kin : K.In s1.heap) (gl : s1.heap.Ns mainGlobals mg)
    (bl : s1.heap.Ns builtinsNs mb) (bb : ∀ x : Str, x ≠ "__name__" → mb x = bootBuiltins x) (lim : s1.heap.NoLimit) (gens : s1.gens = #[]) (ha : s1.heap.get? a = some { cls := .type "list", data := .seq vs.toArray }) (hi : IntsAre vs ns)
    (hl : ns.length ≤ 63) (hr : Room k callerA) (F : ∀ base : Heap, K.In base → base.Ns mainGlobals mg → FnG P w K mg base CX0 k fa fd [x] (toSp K spEnd)) (bind : ∀ (s : Shared) (u : Value), BindsTo s fd ⟨[u], []⟩ [(x, u)]) :
    codeAny (model P w) callerA (.call (.ref fa) ⟨[.ref a], []⟩) (fun r s' => r = .ok (.ret (.bool true)) ∧ OldK s1.heap s'.heap ∧ s'.os = s1.os ∧ AllBare s'.gens) s1 := by
  have rv := vals_ints hi
  have small : ns.length ≤ sizeLine := Nat.le_trans hl (by rw [sizeLine_eq]; decide)
  -- the abstract heap: the script, unless the module itself holds it
  have main : ∀ H : Hp, (∀ b o, H b = some o → b = a ∧ ∃ ob xs, o = .frz ob (.lst xs)) → SqL K H a (ns.map V.int) → HOk P w H s1.heap → (∀ o, H a = some o → K.lookup a = none) →
      codeAny (model P w) callerA (.call (.ref fa) ⟨[.ref a], []⟩) (fun r s' => r = .ok (.ret (.bool true)) ∧ OldK s1.heap s'.heap ∧ s'.os = s1.os ∧ AllBare s'.gens) s1 := by
    intro H only sq ok notK
    have free : ∀ {b : Addr} {o : Obj}, s1.heap.get? b = some o → (b = a → False) → H b = none := fun {b o} _ hb => by
      cases z : H b with
      | none => rfl
      | some u => exact (hb (only b u z).1).elim
    have inK : K.In (hidT s1.heap H) := fun b o e => hidT_get (kin b o e) (by
      cases z : H b with
      | none => rfl
      | some u =>
        obtain ⟨rfl, _⟩ := only b u z
        rw [notK u z] at e
        cases e)
    have ns_ : ∀ {b : Addr} {m : Str → Option Value}, s1.heap.Ns b m → (hidT s1.heap H).Ns b m := fun {b m} ⟨o, es, ep, e, d, r⟩ => ⟨o, es, ep, hidT_get e (free e fun z => by
      subst z
      rw [ha] at e
      cases e
      exact nomatch (show Data.seq vs.toArray _ = Data.dict es ep from d)), d, r⟩
    obtain ⟨mc, l1, l2⟩ := lim
    have e0 : Env0 P w K mg (hidT s1.heap H) callerA [] s1 H :=
      ⟨rfl, ⟨inK, ns_ gl, ⟨mb, ns_ bl, bb⟩, mc, ns_ l1, l2⟩, fun b o e => of_hidT e, Nat.le_of_eq (hidT_size _ _), trivial, fun b hb => (nomatch (show b ∈ ([] : List Addr) from hb)), ok, .of_eq gens⟩
    have sp : toSp K spEnd [.ref a] H (fun v _ => v = .bl true) fun _ _ _ => False :=
      ⟨H, fun _ => none, [.scr ns], Same.refl H, fun b o z => (nomatch z), .cons (.scr sq) .nil, fun d _ => d = .bl true, ⟨ns, rfl, hl, fun _ => rfl, fun _ => rfl⟩, fun d m' v HF' H' q _ _ _ _ r => by
        subst q
        cases r
        rfl⟩
    refine codeAny_mono ((F _ inK (ns_ gl)).go callerA [] s1 H ⟨[.ref a], []⟩ [.ref a] [.ref a] _ _ hr rfl e0 (bind s1 (.ref a)) (.cons rfl .nil) sp) ?_
    intro rs s' hq
    cases rs with
    | error e => exact False.elim hq
    | ok fl => cases fl with
      | ret u =>
        obtain ⟨v, H', os, bare, un, ok', r', q⟩ := hq
        have q : v = .bl true := q
        subst q
        cases r'
        refine ⟨rfl, OldK.of_keep fun b o e => ?_, os, bare⟩
        cases z : H b with
        | none => exact un.keep b o e z (fun z => nomatch (show b ∈ ([] : List Addr) from z)) (by simp)
        | some u =>
          obtain ⟨rfl, ob, xs, rfl⟩ := only b u z
          have z' := un.frzs b ob _ z
          have e1 := (ok b _ z).1
          rw [e] at e1
          cases e1
          exact (ok' b _ z').1
      | _ => exact False.elim hq
  cases hk : K.lookup a with
  | some o =>
    have e := kin a o hk
    rw [ha] at e
    cases e
    refine main (fun _ => none) (fun b o z => (nomatch z)) (.inr ⟨_, vs.toArray, _, hk, rfl, rfl, rfl, ?_, by simpa using rv⟩) (fun b o z => (nomatch (show (none : Option HO) = some o from z))) fun o z => (nomatch z)
    rw [List.size_toArray, hi.length]
    exact small
  | none =>
    have at_ : ∀ b u, (if b = a then some (HO.frz { cls := .type "list", data := .seq vs.toArray } (.lst (ns.map V.int))) else none) = some u → b = a ∧ u = .frz { cls := .type "list", data := .seq vs.toArray } (.lst (ns.map V.int)) := fun b u z => by
      by_cases hb : b = a
      · rw [if_pos hb] at z
        exact ⟨hb, (Option.some.inj z).symm⟩
      · rw [if_neg hb] at z
        cases z
    refine main (fun b => if b = a then some (.frz { cls := .type "list", data := .seq vs.toArray } (.lst (ns.map V.int))) else none) (fun b o z => ?_) (.inl (.inr ⟨_, if_pos rfl⟩)) (fun b u z => ?_) fun _ _ => hk
    · obtain ⟨h1, h2⟩ := at_ b o z
      exact ⟨h1, _, _, h2⟩
    · obtain ⟨rfl, rfl⟩ := at_ b u z
      exact ⟨ha, by rw [List.length_map]; exact small, vs, _, rv, ha⟩
theorem walk_end {l : PySem.W.OpenLaw} {k : Nat} {q : Program} {loose : List Str} {XP : (Str → Option Value) → Heap → Prop} {YP : World → Heap → Prop} {d : DefRec} {x : Str} (hn : l.most = some 63) (hdf : d.params.defaults = []) (hr : Room k callerA)
    (F : ∀ (w : World) (mg : Str → Option Value) (fa : Addr) (h : Heap), YP w h → h.Ns mainGlobals mg → mg d.name = some (.ref fa) → ∃ (K : PySem.W.Frag) (fd : FuncData), K.In h ∧ (∀ (s : Shared) (u : Value), BindsTo s fd ⟨[u], []⟩ [(x, u)]) ∧
      ∀ base : Heap, K.In base → base.Ns mainGlobals mg → FnG l.prog w K mg base CX0 k fa fd [x] (toSp K spEnd)) : PySem.W.WalkO q loose XP YP l.row.toRowW d [] (fun f vs => PySem.call f vs) := by
  refine Att.attach_call hn hdf ?_
  intro w s0 s1 mg mb fa o pm cd doc a vs ns G Y ho hd hcd hmg hobj hints hlen hg
  obtain ⟨K, fd, kin, hb, hF⟩ := F w mg fa _ Y G.T.g hmg
  exact end_call kin G.T.g G.T.b G.T.builtins G.T.nolimit hg hobj hints hlen hr hF hb
end DL

/-! part DLj -/
namespace DL
open PySem PySem.Spec PyProof.Rows L2

/-! ### more rules -/
/-- a module's name for plain data -/
def Gd (K : PySem.W.Frag) (mg : Str → Option Value) (x : Str) (d : D) : Prop := ∃ v u, mg x = some u ∧ RelV v u ∧ ∀ H, Rp K H v d
section
variable {X : Cx} {k : Nat} {a e e2 : Expr} {ra rb : RE} {p pos : Pos} {d : D}
theorem hu100 {A : Around} (hr : Room k A) : A.units + 100 < cLine := by have := hr.un; omega
theorem de_gd {x : Str} (hg : Gl X x) (h : Gd X.K X.mg x d) (hd : (x == ("__debug__" : Str)) = false := by decide) : DE X (.Name x pos) (rC d) := by
  obtain ⟨v, u, h1, h2, h3⟩ := h
  exact de_glob hg h1 h2 h3 hd
theorem pe_tyN {x : Str} {T : String} (hg : Gl X x) (hm : X.mg x = none) (hv : bootBuiltins x = some (.type T) := by decide +kernel) (hn : x ≠ "__name__" := by decide) (hd : (x == ("__debug__" : Str)) = false := by decide) : PE X (.Name x pos) (tC (.ty T)) := pe_bltn hg hm hv rfl hn hd
theorem pe_append {to te : TE} {o : Expr} {apos cpos : Pos} (ho : PE X o to) (he : PE X e te)
    (hbase : attributeBase o "append" X.env (eval o X.env) = eval o X.env := by rfl)
    (hfew : ((backTo cpos (starEach [e] X.env)).all (fun x => !x.1) && (backToKw cpos (keywordEach [] X.env)).all (fun x => x.1.isSome)
      && decide ([e].length + ([] : List Keyword).length + (if ([] : List Keyword).isEmpty then 0 else 1) < 30)) = true := by rfl)
    (hline : (apos.endLine == cpos.line) = true := by rfl) (hs : starEach [e] X.env = (false, eval e X.env) :: starEach [] X.env := by rfl) (hplain : (backTo cpos (starEach [] X.env)).any (·.1) = false := by rfl) :
    PE X (.Call (.Attribute o "append" apos) [e] [] cpos) (tBM X.K "list" rAppend to (tCons te tNil)) :=
  pe_bm PySem.F.plainAttrs_list PySem.F.slot_list_append PySem.F.type_list_append mt_append ho (pa_cons he pa_nil hs) hbase hfew hline hs hplain
theorem pe_extend {to te : TE} {o : Expr} {apos cpos : Pos} (ho : PE X o to) (he : PE X e te)
    (hbase : attributeBase o "extend" X.env (eval o X.env) = eval o X.env := by rfl)
    (hfew : ((backTo cpos (starEach [e] X.env)).all (fun x => !x.1) && (backToKw cpos (keywordEach [] X.env)).all (fun x => x.1.isSome)
      && decide ([e].length + ([] : List Keyword).length + (if ([] : List Keyword).isEmpty then 0 else 1) < 30)) = true := by rfl)
    (hline : (apos.endLine == cpos.line) = true := by rfl) (hs : starEach [e] X.env = (false, eval e X.env) :: starEach [] X.env := by rfl) (hplain : (backTo cpos (starEach [] X.env)).any (·.1) = false := by rfl) :
    PE X (.Call (.Attribute o "extend" apos) [e] [] cpos) (tBM X.K "list" rExtend to (tCons te tNil)) :=
  pe_bm PySem.F.plainAttrs_list PySem.F.slot_list_extend PySem.F.type_list_extend mt_extend ho (pa_cons he pa_nil hs) hbase hfew hline hs hplain
theorem ds_append {i : Nat} {o : Expr} {apos cpos : Pos} (ho : PE X o (tVar i)) (ha : DE X e ra)
    (hbase : attributeBase o "append" X.env (eval o X.env) = eval o X.env := by rfl)
    (hfew : ((backTo cpos (starEach [e] X.env)).all (fun x => !x.1) && (backToKw cpos (keywordEach [] X.env)).all (fun x => x.1.isSome)
      && decide ([e].length + ([] : List Keyword).length + (if ([] : List Keyword).isEmpty then 0 else 1) < 30)) = true := by rfl)
    (hline : (apos.endLine == cpos.line) = true := by rfl) (hs : starEach [e] X.env = (false, eval e X.env) :: starEach [] X.env := by rfl) (hplain : (backTo cpos (starEach [] X.env)).any (·.1) = false := by rfl)
    (hsw : swapsWith (.Call (.Attribute o "append" apos) [e] [] cpos) none pos.line X.env = pure false := by rfl) : DS X (.Expr (.Call (.Attribute o "append" apos) [e] [] cpos) pos) (rApp i ra) :=
  ds_app (pe_append ho ha.pe hbase hfew hline hs hplain) hsw
theorem ds_extend {i : Nat} {o : Expr} {apos cpos : Pos} (ho : PE X o (tVar i)) (ha : DE X e ra)
    (hbase : attributeBase o "extend" X.env (eval o X.env) = eval o X.env := by rfl)
    (hfew : ((backTo cpos (starEach [e] X.env)).all (fun x => !x.1) && (backToKw cpos (keywordEach [] X.env)).all (fun x => x.1.isSome)
      && decide ([e].length + ([] : List Keyword).length + (if ([] : List Keyword).isEmpty then 0 else 1) < 30)) = true := by rfl)
    (hline : (apos.endLine == cpos.line) = true := by rfl) (hs : starEach [e] X.env = (false, eval e X.env) :: starEach [] X.env := by rfl) (hplain : (backTo cpos (starEach [] X.env)).any (·.1) = false := by rfl)
    (hsw : swapsWith (.Call (.Attribute o "extend" apos) [e] [] cpos) none pos.line X.env = pure false := by rfl) : DS X (.Expr (.Call (.Attribute o "extend" apos) [e] [] cpos) pos) (rExt i ra) :=
  ds_ext (pe_extend ho ha.pe hbase hfew hline hs hplain) hsw
/-- list(range(n)) -/
def rgD (i j : Int) : List D := (List.range (j - i).toNat).map fun m => D.int (i + (m : Nat))
theorem rg_rps {K : PySem.W.Frag} {H : Hp} (i j : Int) : Rps K H (rgV i j) (rgD i j) := by
  unfold rgV rgD
  generalize List.range (j - i).toNat = l
  induction l with
  | nil => exact .nil
  | cons m l ih => exact .cons (.int _) ih
def rLstRg (ra : RE) : RA := fun s Q => ra s fun d s1 => ∃ n, d = .int n ∧ (0 ≤ n ∧ n ≤ 16777216) ∧ Q (rgD 0 n) s1
theorem df_listRg {p2 pos2 : Pos} (hg : Gl X "list") (hm : X.mg "list" = none) (hg2 : Gl X "range") (hm2 : X.mg "range" = none) (ha : DE X e ra) (hc : X.calm = true := by rfl) (na : starEach [e] X.env = (false, eval e X.env) :: starEach [] X.env := by rfl)
    (hs : starEach [.Call (.Name "range" p2) [e] [] pos2] X.env = (false, eval (.Call (.Name "range" p2) [e] [] pos2) X.env) :: starEach [] X.env := by rfl) : DF X (.Call (.Name "list" p) [.Call (.Name "range" p2) [e] [] pos2] [] pos) (rLstRg ra) := by
  refine ⟨PEweak (pe_listRg hc hg hm (prg_1 hg2 hm2 ha.pe na) hs) fun σ H Q ⟨g, s, HF, R, Qd, q, k⟩ => ?_⟩
  refine ⟨g, s, HF, R, _, q, fun d s1 v HF1 H1 q1 B1 r1 => ?_⟩
  obtain ⟨n, rfl, ⟨h1, h2⟩, q1⟩ := q1
  cases r1
  exact ⟨n, rfl, RgOk.of_le (Int.le_refl 0) h2 (by decide) h1, fun q hq => k _ s1 _ HF1 H1 q q1 B1 (rg_rps 0 n) hq⟩
/-- x is None as a test -/
theorem dt_isN {j pos'} (ha : DP X a ra) : DT X (.Compare a [.Is] [.Constant .none j pos'] pos) (rB (rIsNone false ra)) := by
  refine ⟨PTweak (pt_cmp (pc_isN ha.pe) rfl) fun σ H Q ⟨g, s, HF, R, Qd, q, k⟩ => ?_⟩
  refine ⟨g, s, HF, R, _, q, fun d s1 v HF1 H1 q1 B1 r1 => ?_⟩
  obtain ⟨hn, b, eb, q1⟩ := q1
  cases eb
  refine ⟨_, rfl, ?_⟩
  rw [rpt_non r1 hn]
  exact k _ s1 HF1 H1 q1 B1
theorem dt_notN {j pos'} (ha : DP X a ra) : DT X (.Compare a [.IsNot] [.Constant .none j pos'] pos) (rB (rIsNone true ra)) := by
  refine ⟨PTweak (pt_cmp (pc_notN ha.pe) rfl) fun σ H Q ⟨g, s, HF, R, Qd, q, k⟩ => ?_⟩
  refine ⟨g, s, HF, R, _, q, fun d s1 v HF1 H1 q1 B1 r1 => ?_⟩
  obtain ⟨hn, b, eb, q1⟩ := q1
  cases eb
  refine ⟨_, rfl, ?_⟩
  rw [rpt_non r1 hn]
  exact k _ s1 HF1 H1 q1 B1
/-! ### a new list that calls change: return [..] -/
theorem Rel.newM {K : PySem.W.Frag} {g HF H : Hp} {s : S} {σ : L2.St} (R : Rel K g s HF σ H) {p : Addr} (hp : H p = none) {vs : List V} {ds : List D} (r : Rps K HF vs ds) : Rel K g { s with m := mset s.m p (.lst ds) } HF σ (upd H p (.lst vs)) := by
  refine ⟨fun b u q => ?_, fun b u q => ?_, fun b u q => ?_, R.len, fun j x q => ?_, R.apart⟩
  · have hb : b ≠ p := ne_of_none q (R.freshF hp)
    rw [upd_ne hb]
    exact R.same b u q
  · obtain ⟨z1, z2, z3⟩ := R.out b u q
    have hb : b ≠ p := ne_of_none z1 hp
    rw [upd_ne hb]
    exact ⟨z1, z2, by show mset s.m p _ b = none; rw [mset_ne hb]; exact z3⟩
  · have q : mset s.m p (.lst ds) b = some u := q
    by_cases hb : b = p
    · subst hb
      rw [mset_same] at q
      cases q
      exact ⟨R.freshF hp, vs, upd_same, r⟩
    · rw [mset_ne hb] at q
      obtain ⟨z1, z2⟩ := R.mok b u q
      exact ⟨z1, z2.mono (Same.refl _) fun u e => by rw [upd_ne hb]; exact e⟩
  · obtain ⟨ov, z1, z2⟩ := R.slots j x q
    refine ⟨ov, z1, z2.mono (Same.refl _) fun b q1 q2 q3 ws q4 eo _ => ?_⟩
    have hb : b ≠ p := ne_of_none q4 hp
    rw [upd_ne hb]
    exact ⟨q4, q1, by show mset s.m p _ b = none; rw [mset_ne hb]; exact q2⟩
def rRetM (rr : RA) : RS := fun D s => rr s fun ds s1 => ∀ a, s1.m a = none → D.rt (.hnd (.ref a)) (mset s1.m a (.lst ds))
theorem ds_retM {rr : RA} (he : DF X e rr) : DS X (.Return (some e) pos) (rRetM rr) := by
  refine ⟨PSweak (ps_ret he.pe) fun E σ H ⟨g, s, HF, R, Dd, q, k⟩ => ?_⟩
  refine ⟨g, s, HF, R, _, q, fun ds s1 vs HF1 H1 p q1 B1 r1 hp => ?_⟩
  exact k.rt _ { s1 with m := mset s1.m p (.lst ds) } σ _ HF1 _ (q1 p (B1.1.freshM hp)) ⟨B1.1.newM hp r1, B1.2⟩ (.hnd _)
end
end DL

/-! part DLs -/
namespace DL
open PySem PySem.Spec PyProof.Rows L2

/-! ### E -/
theorem atI_nth {ds : List D} {i : Int} (h : 0 ≤ i) : atI ds i = ds[i.toNat]? := by
  unfold atI ixN
  rw [if_pos h]
  by_cases hl : i < ds.length
  · rw [if_pos hl]
    rfl
  · rw [if_neg hl]
    exact (List.getElem?_eq_none (by omega)).symm
theorem atI_c0 {a : D} {l : List D} : atI (a :: l) 0 = some a := atI_nth (by decide)
theorem atI_c1 {a b : D} {l : List D} : atI (a :: b :: l) 1 = some b := atI_nth (by decide)
theorem atI_c2 {a b c : D} {l : List D} : atI (a :: b :: c :: l) 2 = some c := atI_nth (by decide)
theorem atI_c3 {a b c d : D} {l : List D} : atI (a :: b :: c :: d :: l) 3 = some d := atI_nth (by decide)
/-- ints of naturals -/
def nL (ns : List Nat) : List D := ns.map fun n => D.int ((n : Nat) : Int)
def nT (ns : List Nat) : D := .tup (nL ns)
theorem nL_inj {a b : List Nat} : nL a = nL b ↔ a = b := by
  refine ⟨fun h => ?_, fun h => by rw [h]⟩
  induction a generalizing b with
  | nil => cases b with
    | nil => rfl
    | cons y b => cases h
  | cons x a ih => cases b with
    | nil => cases h
    | cons y b =>
      have h : D.int ((x : Nat) : Int) :: nL a = D.int ((y : Nat) : Int) :: nL b := h
      injection h with h1 h2
      injection h1 with h1
      rw [ih h2, Int.ofNat.inj h1]
@[simp] theorem nL_len (ns : List Nat) : (nL ns).length = ns.length := by unfold nL; rw [List.length_map]
theorem nL_get (ns : List Nat) (i : Nat) : (nL ns)[i]? = ns[i]?.map fun n => D.int ((n : Nat) : Int) := by unfold nL; rw [List.getElem?_map]

/-! ### loops and comprehensions apart -/
def LcG (ds : List D) (s1 : S) (gt : RG) (rt : RT) (re : RE) (vs : List Nat) (Q : List D → S → Prop) : Prop := noOwn s1.sl vs = true ∧ ∃ W : Nat → List D → M → Prop, W 0 [] s1.m ∧
  (∀ i d acc m', ds[i]? = some d → W i acc m' → gt d ⟨m', wipeL s1.sl vs⟩ fun s2 => rt s2 fun b s3 => if b = true then re s3 fun y s4 => wipeL s4.sl vs = wipeL s1.sl vs ∧ acc.length < sizeLine ∧ W (i + 1) (acc ++ [y]) s4.m else wipeL s3.sl vs = wipeL s1.sl vs ∧ W (i + 1) acc s3.m) ∧
  ∀ acc m', W ds.length acc m' → Q acc { s1 with m := m' }
theorem rLc_eq {ri : RA} {gt : RG} {rt : RT} {re : RE} {vs : List Nat} {s : S} {Q : List D → S → Prop} : rLc ri gt rt re vs s Q = ri s fun ds s1 => LcG ds s1 gt rt re vs Q := rfl
def ForG (ds : List D) (gt : RG) (r : RS) (D' : DEnds) (s1 : S) : Prop := ∃ W : Nat → S → Prop, W 0 s1 ∧ (∀ i d s2, ds[i]? = some d → W i s2 → gt d s2 fun s3 => r { D' with nx := W (i + 1), ct := W (i + 1), bk := D'.nx } s3) ∧ ∀ s2, W ds.length s2 → D'.nx s2
theorem rFor_eq {ri : RA} {gt : RG} {r : RS} {D' : DEnds} {s : S} : rFor ri gt r D' s = ri s fun ds s1 => ForG ds gt r D' s1 := rfl
/-- a comprehension whose elements change nothing -/
theorem lc_map (f : Nat → D) {ds : List D} {m : M} {l : List Sl} {gt : RG} {re : RE} {vs : List Nat} {Q : List D → S → Prop} (no : noOwn l vs = true) (hl : ds.length ≤ 1000000)
    (step : ∀ i d, ds[i]? = some d → ∀ Q' : D → S → Prop, (∀ s4, s4.m = m → wipeL s4.sl vs = wipeL l vs → Q' (f i) s4) → gt d ⟨m, wipeL l vs⟩ fun s2 => re s2 Q') (fin : Q ((List.range ds.length).map f) ⟨m, l⟩) : LcG ds ⟨m, l⟩ gt rYes re vs Q := by
  refine ⟨no, fun i acc m' => m' = m ∧ acc = (List.range i).map f, ⟨rfl, rfl⟩, fun i d acc m' hd w => ?_, fun acc m' w => ?_⟩
  · obtain ⟨rfl, rfl⟩ := w
    have hi : i < ds.length := (List.getElem?_eq_some_iff.mp hd).1
    refine step i d hd _ fun s4 e1 e2 => ⟨e2, ?_, e1, ?_⟩
    · rw [List.length_map, List.length_range]
      have : 16777216 ≤ sizeLine := by decide
      omega
    · rw [List.range_succ, List.map_append]
      rfl
  · obtain ⟨rfl, rfl⟩ := w
    exact fin
/-- a comprehension whose elements change what calls change -/
theorem lc_run (P : Nat → List D → M → Prop) {ds : List D} {m : M} {l : List Sl} {gt : RG} {re : RE} {vs : List Nat} {Q : List D → S → Prop} (no : noOwn l vs = true) (hl : ds.length ≤ 1000000) (p0 : P 0 [] m)
    (step : ∀ i d acc m', ds[i]? = some d → acc.length = i → P i acc m' → ∀ Q' : D → S → Prop, (∀ y s4, P (i + 1) (acc ++ [y]) s4.m → wipeL s4.sl vs = wipeL l vs → Q' y s4) → gt d ⟨m', wipeL l vs⟩ fun s2 => re s2 Q') (fin : ∀ acc m', acc.length = ds.length → P ds.length acc m' → Q acc ⟨m', l⟩) : LcG ds ⟨m, l⟩ gt rYes re vs Q := by
  refine ⟨no, fun i acc m' => acc.length = i ∧ P i acc m', ⟨rfl, p0⟩, fun i d acc m' hd w => ?_, fun acc m' w => fin acc m' w.1 w.2⟩
  obtain ⟨e, w⟩ := w
  have hi : i < ds.length := (List.getElem?_eq_some_iff.mp hd).1
  refine step i d acc m' hd e w _ fun y s4 e1 e2 => ⟨e2, ?_, ?_, e1⟩
  · have : 16777216 ≤ sizeLine := by decide
    omega
  · rw [List.length_append, e]
    rfl
/-- .. with a test -/
theorem lc_filter (p : Nat → Bool) (f : Nat → D) {ds : List D} {m : M} {l : List Sl} {gt : RG} {rt : RT} {re : RE} {vs : List Nat} {Q : List D → S → Prop} (no : noOwn l vs = true) (hl : ds.length ≤ 1000000)
    (step : ∀ i d, ds[i]? = some d → ∀ Q' : D → S → Prop, ∀ N' : S → Prop, (∀ s4, s4.m = m → wipeL s4.sl vs = wipeL l vs → if p i = true then Q' (f i) s4 else N' s4) → gt d ⟨m, wipeL l vs⟩ fun s2 => rt s2 fun b s3 => if b = true then re s3 Q' else N' s3)
    (fin : Q (((List.range ds.length).filter p).map f) ⟨m, l⟩) : LcG ds ⟨m, l⟩ gt rt re vs Q := by
  refine ⟨no, fun i acc m' => m' = m ∧ acc = ((List.range i).filter p).map f, ⟨rfl, rfl⟩, fun i d acc m' hd w => ?_, fun acc m' w => ?_⟩
  · obtain ⟨rfl, rfl⟩ := w
    have hi : i < ds.length := (List.getElem?_eq_some_iff.mp hd).1
    refine step i d hd _ _ fun s4 e1 e2 => ?_
    cases hp : p i with
    | true =>
      rw [if_pos rfl]
      refine ⟨e2, ?_, e1, ?_⟩
      · have := List.length_filter_le p (List.range i)
        rw [List.length_range] at this
        rw [List.length_map]
        have : 16777216 ≤ sizeLine := by decide
        omega
      · rw [List.range_succ, List.filter_append, List.map_append, List.filter_cons_of_pos hp]
        rfl
    | false =>
      rw [if_neg Bool.false_ne_true]
      refine ⟨e2, e1, ?_⟩
      rw [List.range_succ, List.filter_append, List.map_append, List.filter_cons_of_neg (by rw [hp]; exact Bool.false_ne_true)]
      simp
  · obtain ⟨rfl, rfl⟩ := w
    exact fin
/-! ### E2 -/

/-- keeps simp out of what comes later -/
def Tag {α : Sort u} (_ : α) : Type := Bool
def tg {α : Sort u} {x : α} : Tag x := true
def VG (o : Option Sl) (m : M) (l : List Sl) (i : Nat) (Q : D → S → Prop) (_ : Tag Q) : Prop := match o with
  | some (.val d) => Q d ⟨m, l⟩
  | some (.own ds) => Q (.lst ds) ⟨m, l.set i (.val (.lst ds))⟩
  | _ => False
def PG (o : Option D) (Q : D → Prop) (_ : Tag Q) : Prop := ∃ d, o = some d ∧ Q d
def peekL (m : M) : Option Sl → Option D
  | some (.val (.hnd (.ref a))) => (match m a with
    | some (.lst ds) => some (.lst ds)
    | none => some (.hnd (.ref a)))
  | some (.val d) => some d
  | some (.own ds) => some (.lst ds)
  | _ => none
def BG (d : D) (Q : Bool → Prop) (_ : Tag Q) : Prop := ∃ b, d = .bl b ∧ Q b
def IG (d : D) (Q : Int → Prop) (_ : Tag Q) : Prop := ∃ b, d = .int b ∧ Q b
def TG (d : D) (Q : Bool → Prop) (_ : Tag Q) : Prop := ∃ b, tru d = some b ∧ Q b
def LG (ds : List D) (P : Prop) (_ : Tag P) : Prop := ds.length ≤ sizeLine ∧ P
def YG (T : String) (d : D) (Q : D → Prop) (_ : Tag Q) : Prop := ∃ t b, tyD d = some t ∧ kitB t T = some b ∧ Q (.bl b)
/-- a slot's list that changes -/
def AG (o : Option Sl) (m : M) (l : List Sl) (i : Nat) (k : List D → (List D → S) → Prop) (_ : Tag k) : Prop := match o with
  | some (.own ds) => k ds fun es => ⟨m, l.set i (.own es)⟩
  | some (.val (.hnd (.ref a))) => (match m a with
    | some (.lst ds) => k ds fun es => ⟨mset m a (.lst es), l⟩
    | none => False)
  | _ => False
/-- what the store holds -/
def HG (o : Option MO) (k : List D → Prop) (_ : Tag k) : Prop := ∃ ds, o = some (.lst ds) ∧ k ds
def JG (o : Option Nat) (k : Nat → Prop) (_ : Tag k) : Prop := ∃ j, o = some j ∧ k j
/-- the items of a sequence -/
def SG (d : D) (Q : List D → Prop) (_ : Tag Q) : Prop := ∃ ds, itemsD d = some ds ∧ Q ds
theorem ex1 {α : Type} {β : Type} {f : α → β} (hf : ∀ x y, f x = f y → x = y) {b : α} {p : α → Prop} : (∃ c, f b = f c ∧ p c) = p b := propext ⟨fun ⟨d, e, h⟩ => by rw [hf _ _ e]; exact h, fun h => ⟨b, rfl, h⟩⟩
theorem lstAt_AG {m : M} {l : List Sl} {i : Nat} {k : List D → (List D → S) → Prop} : (∃ ds up, lstAt ⟨m, l⟩ i = some (ds, up) ∧ k ds up) = AG l[i]? m l i k tg := by
  unfold lstAt AG
  show (∃ ds up, (match l[i]? with
    | some (.own ds) => some (ds, fun es => put ⟨m, l⟩ i (.own es))
    | some (.val (.hnd (.ref a))) => (match m a with
      | some (MO.lst ds) => some (ds, fun es => S.mk (mset m a (.lst es)) l)
      | none => none)
    | _ => none) = some (ds, up) ∧ k ds up) = _
  split
  · exact propext ⟨fun ⟨_, _, e, h⟩ => by cases e; exact h, fun h => ⟨_, _, rfl, h⟩⟩
  · split
    · exact propext ⟨fun ⟨_, _, e, h⟩ => by cases e; exact h, fun h => ⟨_, _, rfl, h⟩⟩
    · exact propext ⟨fun ⟨_, _, e, h⟩ => (by cases e), fun h => h.elim⟩
  · exact propext ⟨fun ⟨_, _, e, h⟩ => (by cases e), fun h => h.elim⟩

def RG1 (ds : List D) (K : List D → Prop) (_ : Tag K) : Prop := ∃ j, ds = [.int j] ∧ inR j ∧ K ((List.range j.toNat).map fun i => D.int (0 + (i : Nat)))
def RG2 (ds : List D) (K : List D → Prop) (_ : Tag K) : Prop := ∃ i j, ds = [.int i, .int j] ∧ inR i ∧ inR j ∧ K ((List.range (j - i).toNat).map fun m => D.int (i + (m : Nat)))
def ZG (ds : List D) (K : List D → Prop) (_ : Tag K) : Prop := ∃ d1 d2 xs ys, ds = [d1, d2] ∧ ((d1 = .lst xs ∧ d2 = .lst ys) ∨ (d1 = .tup xs ∧ d2 = .tup ys)) ∧ K (zipD xs ys)
section
variable {r u : RS} {ra rb rc : RE} {rr rk : RA} {ta tb : RT} {n bk ct : S → Prop} {t : D → M → Prop} {D' : DEnds} {s : S} {m : M} {l : List Sl} {i j k : Nat} {d e : D} {ds es : List D} {dop dop' : DO2} {Q : D → S → Prop} {Qb : Bool → S → Prop} {Ql : List D → S → Prop} {Qs : S → Prop} {q : D → Prop} {P : Prop} {sp : DSp} {a b : Int} {c : Bool} {x : Str}
theorem e_seq : rSeq r u ⟨n, t, bk, ct⟩ s = r ⟨u ⟨n, t, bk, ct⟩, t, bk, ct⟩ s := rfl
theorem e_next : rNext ⟨n, t, bk, ct⟩ s = n s := rfl
theorem e_never : rNever D' s = False := rfl
theorem e_ifs : rIfS ta r u D' s = ta s fun b s1 => if b = true then r D' s1 else u D' s1 := rfl
theorem e_ret : rRet ra ⟨n, t, bk, ct⟩ s = ra s fun d s1 => t d s1.m := rfl
theorem e_retN : rRetN ⟨n, t, bk, ct⟩ ⟨m, l⟩ = t .non m := rfl
theorem e_drop : rDrop ra ⟨n, t, bk, ct⟩ s = ra s fun _ s1 => n s1 := rfl
theorem e_brk : rBreak ⟨n, t, bk, ct⟩ s = bk s := rfl
theorem e_ct : rCont ⟨n, t, bk, ct⟩ s = ct s := rfl
theorem e_set : rSet i ra ⟨n, t, bk, ct⟩ s = ra s fun d s1 => n (put s1 i (.val d)) := rfl
theorem e_setF : rSetF i rr ⟨n, t, bk, ct⟩ s = rr s fun ds s1 => n (put s1 i (.own ds)) := rfl
theorem e_par : rPar i j rr ⟨n, t, bk, ct⟩ s = rr s fun ds s1 => gsCons (gNm i) (gsCons (gNm j) gsNil) ds s1 n := by
  unfold rPar gsCons gNm gsNil
  congr 1
  funext ds s1
  refine propext ⟨fun ⟨d, e, h, q⟩ => ⟨d, [e], h, e, [], rfl, rfl, q⟩, fun ⟨d, es, h, e, es', h', h2, q⟩ => ⟨d, e, by rw [h, h', h2], q⟩⟩
theorem e_par3 : rPar3 i j k rr ⟨n, t, bk, ct⟩ s = rr s fun ds s1 => gsCons (gNm i) (gsCons (gNm j) (gsCons (gNm k) gsNil)) ds s1 n := by
  unfold rPar3 gsCons gNm gsNil
  congr 1
  funext ds s1
  refine propext ⟨fun ⟨d, e, f, h, q⟩ => ⟨d, [e, f], h, e, [f], rfl, f, [], rfl, rfl, q⟩, fun ⟨d, es, h, e, es', h', f, es2, h2, h3, q⟩ => ⟨d, e, f, by rw [h, h', h2, h3], q⟩⟩
theorem e_aug {f : Int → Int → Int} : rAug i f ra ⟨n, t, bk, ct⟩ s = rPeek i s fun d0 _ => ra s fun d s1 => IG d0 (fun x => IG d (fun y => n (put s1 i (.val (.int (f x y))))) tg) tg := by
  unfold rAug IG
  congr 1
  funext d0 s0
  congr 1
  funext d s1
  refine propext ⟨fun ⟨x, y, h1, h2, q⟩ => ⟨x, h1, y, h2, q⟩, fun ⟨x, h1, y, h2, q⟩ => ⟨x, y, h1, h2, q⟩⟩
theorem e_asg {gt : RG} : rAsg ra gt ⟨n, t, bk, ct⟩ s = ra s fun d s1 => gt d s1 n := rfl
theorem e_gNm : gNm i d s Qs = Qs (put s i (.val d)) := rfl
theorem e_gTp {v : RGs} : gTp k v (.tup ds) s Qs = (ds.length = k ∧ v ds s Qs) := propext ⟨fun ⟨_, e, h⟩ => by cases e; exact h, fun h => ⟨_, rfl, h⟩⟩
theorem e_gsNil : gsNil [] s Qs = Qs s := propext ⟨fun h => h.2, fun h => ⟨rfl, h⟩⟩
theorem e_gsCons {g : RG} {v : RGs} : gsCons g v (d :: ds) s Qs = g d s fun s1 => v ds s1 Qs := propext ⟨fun ⟨_, _, e, h⟩ => by cases e; exact h, fun h => ⟨_, _, rfl, h⟩⟩
theorem e_app : rApp i ra ⟨n, t, bk, ct⟩ ⟨m, l⟩ = AG l[i]? m l i (fun _ _ => ra ⟨m, l⟩ fun d s1 => AG s1.sl[i]? s1.m s1.sl i (fun ds up => ds.length < sizeLine ∧ n (up (ds ++ [d]))) tg) tg := by
  unfold rApp
  have e1 : ∀ d (s1 : S), (∃ ds up, lstAt s1 i = some (ds, up) ∧ ds.length < sizeLine ∧ n (up (ds ++ [d]))) = AG s1.sl[i]? s1.m s1.sl i (fun ds up => ds.length < sizeLine ∧ n (up (ds ++ [d]))) tg := fun d s1 => lstAt_AG (m := s1.m) (l := s1.sl)
  simp only [e1]
  rw [← lstAt_AG (k := fun _ _ => ra ⟨m, l⟩ fun d s1 => AG s1.sl[i]? s1.m s1.sl i (fun ds up => ds.length < sizeLine ∧ n (up (ds ++ [d]))) tg)]
  exact propext ⟨fun ⟨⟨⟨a, b⟩, h⟩, q⟩ => ⟨a, b, h, q⟩, fun ⟨a, b, h, q⟩ => ⟨⟨⟨a, b⟩, h⟩, q⟩⟩
theorem e_setIx : rSetIx i ra rb ⟨n, t, bk, ct⟩ s = ra s fun d s1 => rPeek i s1 fun _ _ => rb s1 fun di s2 => AG s2.sl[i]? s2.m s2.sl i (fun ds up => IG di (fun x => JG (ixN ds.length x) (fun j => n (up (ds.set j d))) tg) tg) tg := by
  unfold rSetIx
  congr 1
  funext d s1
  congr 1
  funext _ _
  congr 1
  funext di s2
  have e1 := lstAt_AG (m := s2.m) (l := s2.sl) (i := i) (k := fun ds up => IG di (fun x => JG (ixN ds.length x) (fun j => n (up (ds.set j d))) tg) tg)
  rw [← e1]
  unfold IG JG
  exact propext ⟨fun ⟨ds, up, x, j, h1, h2, h3, q⟩ => ⟨ds, up, h1, x, h2, j, h3, q⟩, fun ⟨ds, up, h1, x, h2, j, h3, q⟩ => ⟨ds, up, x, j, h1, h2, h3, q⟩⟩
theorem e_retM : rRetM rr ⟨n, t, bk, ct⟩ s = rr s fun ds s1 => ∀ a, s1.m a = none → t (.hnd (.ref a)) (mset s1.m a (.lst ds)) := rfl
theorem e_for {ri : RA} {gt : RG} : rFor ri gt r D' s = ri s fun ds s1 => ForG ds gt r D' s1 := rfl
theorem e_var : rVar i ⟨m, l⟩ Q = VG l[i]? m l i Q tg := rfl
theorem e_VGv : VG (some (.val d)) m l i Q tg = Q d ⟨m, l⟩ := rfl
theorem e_VGo : VG (some (.own ds)) m l i Q tg = Q (.lst ds) ⟨m, l.set i (.val (.lst ds))⟩ := rfl
theorem e_peek : rPeek i ⟨m, l⟩ Q = PG (peekL m l[i]?) (fun d => Q d ⟨m, l⟩) tg := rfl
theorem e_PG : PG (some d) q tg = q d := ex1 fun _ _ e => Option.some.inj e
theorem pk_int : peekL m (some (.val (.int a))) = some (.int a) := rfl
theorem pk_bl : peekL m (some (.val (.bl c))) = some (.bl c) := rfl
theorem pk_non : peekL m (some (.val .non)) = some .non := rfl
theorem pk_str : peekL m (some (.val (.str x))) = some (.str x) := rfl
theorem pk_lst : peekL m (some (.val (.lst ds))) = some (.lst ds) := rfl
theorem pk_tup : peekL m (some (.val (.tup ds))) = some (.tup ds) := rfl
theorem pk_scr {ns : List Int} : peekL m (some (.val (.scr ns))) = some (.scr ns) := rfl
theorem pk_own : peekL m (some (.own ds)) = some (.lst ds) := rfl
theorem e_AGo {K : List D → (List D → S) → Prop} : AG (some (.own ds)) m l i K tg = K ds fun es => ⟨m, l.set i (.own es)⟩ := rfl
theorem e_AGh {ad : Addr} {K : List D → (List D → S) → Prop} : AG (some (.val (.hnd (.ref ad)))) m l i K tg = HG (m ad) (fun ds => K ds fun es => ⟨mset m ad (.lst es), l⟩) tg := by
  show (match m ad with
    | some (MO.lst ds) => K ds fun es => ⟨mset m ad (.lst es), l⟩
    | none => False) = _
  unfold HG
  generalize m ad = o
  cases o with
  | none => exact (propext ⟨fun ⟨_, e, h⟩ => (by cases e), fun h => h.elim⟩ : _ = _).symm
  | some o => cases o with
    | lst ds => exact (propext ⟨fun ⟨_, e, h⟩ => (by cases e; exact h), fun h => ⟨_, rfl, h⟩⟩ : _ = _).symm
theorem e_HG {K : List D → Prop} : HG (some (.lst ds)) K tg = K ds := propext ⟨fun ⟨_, e, h⟩ => by cases e; exact h, fun h => ⟨_, rfl, h⟩⟩
theorem e_JG {K : Nat → Prop} : JG (some j) K tg = K j := ex1 fun _ _ e => Option.some.inj e
theorem e_C : rC d s Q = Q d s := rfl
theorem e_bin : rBin dop ra rb s Q = ra s fun d1 s1 => rb s1 fun d2 s2 => dop d1 d2 fun d => Q d s2 := rfl
theorem e_b : rB ra s Qb = ra s fun d s' => BG d (fun b => Qb b s') tg := rfl
theorem e_BG {K : Bool → Prop} : BG (.bl c) K tg = K c := ex1 fun _ _ e => by cases e; rfl
theorem e_IG {K : Int → Prop} : IG (.int a) K tg = K a := ex1 fun _ _ e => by cases e; rfl
theorem e_chn : rChn dop dop' ra rb rc s Q = ra s fun d1 s1 => rb s1 fun d2 s2 => dop d1 d2 fun z => BG z (fun k => if k = true then rc s2 fun d3 s3 => dop' d2 d3 fun d => Q d s3 else Q (.bl false) s2) tg := rfl
theorem e_and : rAnd ta tb s Qb = ta s fun c s1 => if c = true then tb s1 Qb else Qb false s1 := rfl
theorem e_or : rOr ta tb s Qb = ta s fun c s1 => if c = true then Qb true s1 else tb s1 Qb := rfl
theorem e_not : rNot ta s Qb = ta s fun c s1 => Qb (!c) s1 := rfl
theorem e_andV : rAndV ra rb s Q = ra s fun d s1 => BG d (fun c => if c = true then rb s1 Q else Q (.bl false) s1) tg := rfl
theorem e_orV : rOrV ra rb s Q = ra s fun d s1 => BG d (fun c => if c = true then Q (.bl true) s1 else rb s1 Q) tg := rfl
theorem e_notV : rNotV ra s Q = ra s fun d s1 => BG d (fun c => Q (.bl (!c)) s1) tg := rfl
theorem e_if : rIf ta ra rb s Q = ta s fun c s1 => if c = true then ra s1 Q else rb s1 Q := rfl
theorem e_tru : rTru ra s Qb = ra s fun d s1 => TG d (fun b => Qb b s1) tg := rfl
theorem tg_bl {K : Bool → Prop}: TG (.bl c) K tg = K c := ex1 fun _ _ e => Option.some.inj e
theorem tg_int {K : Bool → Prop}: TG (.int a) K tg = K (a != 0) := ex1 fun _ _ e => Option.some.inj e
theorem tg_non {K : Bool → Prop}: TG .non K tg = K false := ex1 fun _ _ e => Option.some.inj e
theorem tg_lst {K : Bool → Prop}: TG (.lst ds) K tg = K (!ds.isEmpty) := ex1 fun _ _ e => Option.some.inj e
theorem tg_tup {K : Bool → Prop}: TG (.tup ds) K tg = K (!ds.isEmpty) := ex1 fun _ _ e => Option.some.inj e
theorem e_nil : rNil s Ql = Ql [] s := rfl
theorem e_cons : rCons ra rr s Ql = ra s fun d s1 => rr s1 fun ds s2 => Ql (d :: ds) s2 := rfl
theorem e_tup : rTup rr s Q = rr s fun ds s1 => LG ds (Q (.tup ds) s1) tg := rfl
theorem e_lst : rLst rr s Ql = rr s fun ds s1 => LG ds (Ql ds s1) tg := rfl
theorem lg_0 : LG [] P tg = P := propext ⟨fun h => h.2, fun h => ⟨Nat.le_trans (show _ ≤ 16777216 by simp) (by decide), h⟩⟩
theorem lg_1 {y0 : D} : LG [y0] P tg = P := propext ⟨fun h => h.2, fun h => ⟨Nat.le_trans (show _ ≤ 16777216 by simp) (by decide), h⟩⟩
theorem lg_2 {y0 y1 : D} : LG [y0, y1] P tg = P := propext ⟨fun h => h.2, fun h => ⟨Nat.le_trans (show _ ≤ 16777216 by simp) (by decide), h⟩⟩
theorem lg_3 {y0 y1 y2 : D} : LG [y0, y1, y2] P tg = P := propext ⟨fun h => h.2, fun h => ⟨Nat.le_trans (show _ ≤ 16777216 by simp) (by decide), h⟩⟩
theorem lg_4 {y0 y1 y2 y3 : D} : LG [y0, y1, y2, y3] P tg = P := propext ⟨fun h => h.2, fun h => ⟨Nat.le_trans (show _ ≤ 16777216 by simp) (by decide), h⟩⟩
theorem lg_5 {y0 y1 y2 y3 y4 : D} : LG [y0, y1, y2, y3, y4] P tg = P := propext ⟨fun h => h.2, fun h => ⟨Nat.le_trans (show _ ≤ 16777216 by simp) (by decide), h⟩⟩
theorem lg_6 {y0 y1 y2 y3 y4 y5 : D} : LG [y0, y1, y2, y3, y4, y5] P tg = P := propext ⟨fun h => h.2, fun h => ⟨Nat.le_trans (show _ ≤ 16777216 by simp) (by decide), h⟩⟩
theorem lg_7 {y0 y1 y2 y3 y4 y5 y6 : D} : LG [y0, y1, y2, y3, y4, y5, y6] P tg = P := propext ⟨fun h => h.2, fun h => ⟨Nat.le_trans (show _ ≤ 16777216 by simp) (by decide), h⟩⟩
theorem lg_8 {y0 y1 y2 y3 y4 y5 y6 y7 : D} : LG [y0, y1, y2, y3, y4, y5, y6, y7] P tg = P := propext ⟨fun h => h.2, fun h => ⟨Nat.le_trans (show _ ≤ 16777216 by simp) (by decide), h⟩⟩
theorem lg_9 {y0 y1 y2 y3 y4 y5 y6 y7 y8 : D} : LG [y0, y1, y2, y3, y4, y5, y6, y7, y8] P tg = P := propext ⟨fun h => h.2, fun h => ⟨Nat.le_trans (show _ ≤ 16777216 by simp) (by decide), h⟩⟩
theorem lg_10 {y0 y1 y2 y3 y4 y5 y6 y7 y8 y9 : D} : LG [y0, y1, y2, y3, y4, y5, y6, y7, y8, y9] P tg = P := propext ⟨fun h => h.2, fun h => ⟨Nat.le_trans (show _ ≤ 16777216 by simp) (by decide), h⟩⟩
theorem lg_11 {y0 y1 y2 y3 y4 y5 y6 y7 y8 y9 y10 : D} : LG [y0, y1, y2, y3, y4, y5, y6, y7, y8, y9, y10] P tg = P := propext ⟨fun h => h.2, fun h => ⟨Nat.le_trans (show _ ≤ 16777216 by simp) (by decide), h⟩⟩
theorem lg_12 {y0 y1 y2 y3 y4 y5 y6 y7 y8 y9 y10 y11 : D} : LG [y0, y1, y2, y3, y4, y5, y6, y7, y8, y9, y10, y11] P tg = P := propext ⟨fun h => h.2, fun h => ⟨Nat.le_trans (show _ ≤ 16777216 by simp) (by decide), h⟩⟩
theorem lg_13 {y0 y1 y2 y3 y4 y5 y6 y7 y8 y9 y10 y11 y12 : D} : LG [y0, y1, y2, y3, y4, y5, y6, y7, y8, y9, y10, y11, y12] P tg = P := propext ⟨fun h => h.2, fun h => ⟨Nat.le_trans (show _ ≤ 16777216 by simp) (by decide), h⟩⟩
theorem lg_14 {y0 y1 y2 y3 y4 y5 y6 y7 y8 y9 y10 y11 y12 y13 : D} : LG [y0, y1, y2, y3, y4, y5, y6, y7, y8, y9, y10, y11, y12, y13] P tg = P := propext ⟨fun h => h.2, fun h => ⟨Nat.le_trans (show _ ≤ 16777216 by simp) (by decide), h⟩⟩
theorem lg_15 {y0 y1 y2 y3 y4 y5 y6 y7 y8 y9 y10 y11 y12 y13 y14 : D} : LG [y0, y1, y2, y3, y4, y5, y6, y7, y8, y9, y10, y11, y12, y13, y14] P tg = P := propext ⟨fun h => h.2, fun h => ⟨Nat.le_trans (show _ ≤ 16777216 by simp) (by decide), h⟩⟩
theorem lg_16 {y0 y1 y2 y3 y4 y5 y6 y7 y8 y9 y10 y11 y12 y13 y14 y15 : D} : LG [y0, y1, y2, y3, y4, y5, y6, y7, y8, y9, y10, y11, y12, y13, y14, y15] P tg = P := propext ⟨fun h => h.2, fun h => ⟨Nat.le_trans (show _ ≤ 16777216 by simp) (by decide), h⟩⟩
theorem e_fz : rFz rr s Q = rr s fun ds s1 => Q (.lst ds) s1 := rfl
theorem e_one {dc : DO1} : rOne dc ra s Q = ra s fun d s1 => dc d fun d' => Q d' s1 := rfl
theorem e_oneF {dc : D → (List D → Prop) → Prop} : rOneF dc ra s Ql = ra s fun d s1 => dc d fun ds => Ql ds s1 := rfl
theorem e_ixN : rIxN i rb s Q = rPeek i s fun _ _ => rb s fun d s1 => rPeek i s1 fun d0 s2 => dIx d0 d fun d' => Q d' s2 := rfl
theorem e_neg : rNeg ra s Q = ra s fun d s1 => IG d (fun i => Q (.int (-i)) s1) tg := rfl
theorem e_is {T : String} : rIs T ra s Q = ra s fun d s1 => YG T d (fun d' => Q d' s1) tg := rfl
theorem yg_int_int : YG "int" (.int a) q tg = q (.bl true) := propext ⟨fun ⟨_, _, e1, e2, h⟩ => by cases e1; rw [show kitB "int" "int" = some true by decide +kernel] at e2; cases e2; exact h, fun h => ⟨_, _, rfl, by decide +kernel, h⟩⟩
theorem yg_int_bl : YG "int" (.bl c) q tg = q (.bl true) := propext ⟨fun ⟨_, _, e1, e2, h⟩ => by cases e1; rw [show kitB "bool" "int" = some true by decide +kernel] at e2; cases e2; exact h, fun h => ⟨_, _, rfl, by decide +kernel, h⟩⟩
theorem yg_int_non : YG "int" .non q tg = q (.bl false) := propext ⟨fun ⟨_, _, e1, e2, h⟩ => by cases e1; rw [show kitB "NoneType" "int" = some false by decide +kernel] at e2; cases e2; exact h, fun h => ⟨_, _, rfl, by decide +kernel, h⟩⟩
theorem yg_int_str : YG "int" (.str x) q tg = q (.bl false) := propext ⟨fun ⟨_, _, e1, e2, h⟩ => by cases e1; rw [show kitB "str" "int" = some false by decide +kernel] at e2; cases e2; exact h, fun h => ⟨_, _, rfl, by decide +kernel, h⟩⟩
theorem yg_int_lst : YG "int" (.lst ds) q tg = q (.bl false) := propext ⟨fun ⟨_, _, e1, e2, h⟩ => by cases e1; rw [show kitB "list" "int" = some false by decide +kernel] at e2; cases e2; exact h, fun h => ⟨_, _, rfl, by decide +kernel, h⟩⟩
theorem yg_int_tup : YG "int" (.tup ds) q tg = q (.bl false) := propext ⟨fun ⟨_, _, e1, e2, h⟩ => by cases e1; rw [show kitB "tuple" "int" = some false by decide +kernel] at e2; cases e2; exact h, fun h => ⟨_, _, rfl, by decide +kernel, h⟩⟩
theorem yg_bool_int : YG "bool" (.int a) q tg = q (.bl false) := propext ⟨fun ⟨_, _, e1, e2, h⟩ => by cases e1; rw [show kitB "int" "bool" = some false by decide +kernel] at e2; cases e2; exact h, fun h => ⟨_, _, rfl, by decide +kernel, h⟩⟩
theorem yg_bool_bl : YG "bool" (.bl c) q tg = q (.bl true) := propext ⟨fun ⟨_, _, e1, e2, h⟩ => by cases e1; rw [show kitB "bool" "bool" = some true by decide +kernel] at e2; cases e2; exact h, fun h => ⟨_, _, rfl, by decide +kernel, h⟩⟩
theorem yg_bool_non : YG "bool" .non q tg = q (.bl false) := propext ⟨fun ⟨_, _, e1, e2, h⟩ => by cases e1; rw [show kitB "NoneType" "bool" = some false by decide +kernel] at e2; cases e2; exact h, fun h => ⟨_, _, rfl, by decide +kernel, h⟩⟩
theorem yg_bool_str : YG "bool" (.str x) q tg = q (.bl false) := propext ⟨fun ⟨_, _, e1, e2, h⟩ => by cases e1; rw [show kitB "str" "bool" = some false by decide +kernel] at e2; cases e2; exact h, fun h => ⟨_, _, rfl, by decide +kernel, h⟩⟩
theorem yg_bool_lst : YG "bool" (.lst ds) q tg = q (.bl false) := propext ⟨fun ⟨_, _, e1, e2, h⟩ => by cases e1; rw [show kitB "list" "bool" = some false by decide +kernel] at e2; cases e2; exact h, fun h => ⟨_, _, rfl, by decide +kernel, h⟩⟩
theorem yg_bool_tup : YG "bool" (.tup ds) q tg = q (.bl false) := propext ⟨fun ⟨_, _, e1, e2, h⟩ => by cases e1; rw [show kitB "tuple" "bool" = some false by decide +kernel] at e2; cases e2; exact h, fun h => ⟨_, _, rfl, by decide +kernel, h⟩⟩
theorem yg_tuple_int : YG "tuple" (.int a) q tg = q (.bl false) := propext ⟨fun ⟨_, _, e1, e2, h⟩ => by cases e1; rw [show kitB "int" "tuple" = some false by decide +kernel] at e2; cases e2; exact h, fun h => ⟨_, _, rfl, by decide +kernel, h⟩⟩
theorem yg_tuple_bl : YG "tuple" (.bl c) q tg = q (.bl false) := propext ⟨fun ⟨_, _, e1, e2, h⟩ => by cases e1; rw [show kitB "bool" "tuple" = some false by decide +kernel] at e2; cases e2; exact h, fun h => ⟨_, _, rfl, by decide +kernel, h⟩⟩
theorem yg_tuple_non : YG "tuple" .non q tg = q (.bl false) := propext ⟨fun ⟨_, _, e1, e2, h⟩ => by cases e1; rw [show kitB "NoneType" "tuple" = some false by decide +kernel] at e2; cases e2; exact h, fun h => ⟨_, _, rfl, by decide +kernel, h⟩⟩
theorem yg_tuple_str : YG "tuple" (.str x) q tg = q (.bl false) := propext ⟨fun ⟨_, _, e1, e2, h⟩ => by cases e1; rw [show kitB "str" "tuple" = some false by decide +kernel] at e2; cases e2; exact h, fun h => ⟨_, _, rfl, by decide +kernel, h⟩⟩
theorem yg_tuple_lst : YG "tuple" (.lst ds) q tg = q (.bl false) := propext ⟨fun ⟨_, _, e1, e2, h⟩ => by cases e1; rw [show kitB "list" "tuple" = some false by decide +kernel] at e2; cases e2; exact h, fun h => ⟨_, _, rfl, by decide +kernel, h⟩⟩
theorem yg_tuple_tup : YG "tuple" (.tup ds) q tg = q (.bl true) := propext ⟨fun ⟨_, _, e1, e2, h⟩ => by cases e1; rw [show kitB "tuple" "tuple" = some true by decide +kernel] at e2; cases e2; exact h, fun h => ⟨_, _, rfl, by decide +kernel, h⟩⟩
theorem yg_list_int : YG "list" (.int a) q tg = q (.bl false) := propext ⟨fun ⟨_, _, e1, e2, h⟩ => by cases e1; rw [show kitB "int" "list" = some false by decide +kernel] at e2; cases e2; exact h, fun h => ⟨_, _, rfl, by decide +kernel, h⟩⟩
theorem yg_list_bl : YG "list" (.bl c) q tg = q (.bl false) := propext ⟨fun ⟨_, _, e1, e2, h⟩ => by cases e1; rw [show kitB "bool" "list" = some false by decide +kernel] at e2; cases e2; exact h, fun h => ⟨_, _, rfl, by decide +kernel, h⟩⟩
theorem yg_list_non : YG "list" .non q tg = q (.bl false) := propext ⟨fun ⟨_, _, e1, e2, h⟩ => by cases e1; rw [show kitB "NoneType" "list" = some false by decide +kernel] at e2; cases e2; exact h, fun h => ⟨_, _, rfl, by decide +kernel, h⟩⟩
theorem yg_list_str : YG "list" (.str x) q tg = q (.bl false) := propext ⟨fun ⟨_, _, e1, e2, h⟩ => by cases e1; rw [show kitB "str" "list" = some false by decide +kernel] at e2; cases e2; exact h, fun h => ⟨_, _, rfl, by decide +kernel, h⟩⟩
theorem yg_list_lst : YG "list" (.lst ds) q tg = q (.bl true) := propext ⟨fun ⟨_, _, e1, e2, h⟩ => by cases e1; rw [show kitB "list" "list" = some true by decide +kernel] at e2; cases e2; exact h, fun h => ⟨_, _, rfl, by decide +kernel, h⟩⟩
theorem yg_list_tup : YG "list" (.tup ds) q tg = q (.bl false) := propext ⟨fun ⟨_, _, e1, e2, h⟩ => by cases e1; rw [show kitB "tuple" "list" = some false by decide +kernel] at e2; cases e2; exact h, fun h => ⟨_, _, rfl, by decide +kernel, h⟩⟩
theorem yg_str_int : YG "str" (.int a) q tg = q (.bl false) := propext ⟨fun ⟨_, _, e1, e2, h⟩ => by cases e1; rw [show kitB "int" "str" = some false by decide +kernel] at e2; cases e2; exact h, fun h => ⟨_, _, rfl, by decide +kernel, h⟩⟩
theorem yg_str_bl : YG "str" (.bl c) q tg = q (.bl false) := propext ⟨fun ⟨_, _, e1, e2, h⟩ => by cases e1; rw [show kitB "bool" "str" = some false by decide +kernel] at e2; cases e2; exact h, fun h => ⟨_, _, rfl, by decide +kernel, h⟩⟩
theorem yg_str_non : YG "str" .non q tg = q (.bl false) := propext ⟨fun ⟨_, _, e1, e2, h⟩ => by cases e1; rw [show kitB "NoneType" "str" = some false by decide +kernel] at e2; cases e2; exact h, fun h => ⟨_, _, rfl, by decide +kernel, h⟩⟩
theorem yg_str_str : YG "str" (.str x) q tg = q (.bl true) := propext ⟨fun ⟨_, _, e1, e2, h⟩ => by cases e1; rw [show kitB "str" "str" = some true by decide +kernel] at e2; cases e2; exact h, fun h => ⟨_, _, rfl, by decide +kernel, h⟩⟩
theorem yg_str_lst : YG "str" (.lst ds) q tg = q (.bl false) := propext ⟨fun ⟨_, _, e1, e2, h⟩ => by cases e1; rw [show kitB "list" "str" = some false by decide +kernel] at e2; cases e2; exact h, fun h => ⟨_, _, rfl, by decide +kernel, h⟩⟩
theorem yg_str_tup : YG "str" (.tup ds) q tg = q (.bl false) := propext ⟨fun ⟨_, _, e1, e2, h⟩ => by cases e1; rw [show kitB "tuple" "str" = some false by decide +kernel] at e2; cases e2; exact h, fun h => ⟨_, _, rfl, by decide +kernel, h⟩⟩
theorem e_call : rCall sp rr s Q = rr s fun ds s1 => sp ds s1.m fun d m' => Q d ⟨m', s1.sl⟩ := rfl
theorem e_callK {p q : Nat} {idx : List Nat} : rCallK sp p q idx rr rk s Q = rr s fun ds s1 => rk s1 fun es s2 => ds.length = p ∧ es.length = q ∧ sp (ds ++ idx.filterMap (es[·]?)) s2.m fun d m' => Q d ⟨m', s2.sl⟩ := rfl
theorem e_isN {ng : Bool} : rIsNone ng ra s Q = ra s fun d s1 => noH d = true ∧ Q (.bl (if ng then !isNonB d else isNonB d)) s1 := rfl
theorem e_items : rItems ra s Ql = ra s fun d s1 => SG d (fun ds => Ql ds s1) tg := rfl
theorem sg_lst {K : List D → Prop} : SG (.lst ds) K tg = K ds := ex1 fun _ _ e => Option.some.inj e
theorem sg_tup {K : List D → Prop} : SG (.tup ds) K tg = K ds := ex1 fun _ _ e => Option.some.inj e
theorem sg_scr {ns : List Int} {K : List D → Prop} : SG (.scr ns) K tg = K (ns.map D.int) := ex1 fun _ _ e => Option.some.inj e
theorem e_slN {rl rh : RO} : rSlN i rl rh s Q = rPeek i s fun _ _ => rl s fun l s2 => rh s2 fun h s3 => rPeek i s3 fun d s4 => dSl d l h fun d' => Q d' s4 := rfl
theorem e_sl {dc : D → Option Int → Option Int → (D → Prop) → Prop} {rl rh : RO} : rSl dc ra rl rh s Q = ra s fun d s1 => rl s1 fun l s2 => rh s2 fun h s3 => dc d l h fun d' => Q d' s3 := rfl
theorem e_oNone {Qo : Option Int → S → Prop} : rONone s Qo = Qo none s := rfl
theorem e_oSome {Qo : Option Int → S → Prop} : rOSome ra s Qo = ra s fun d s1 => IG d (fun i => Qo (some i) s1) tg := rfl
theorem e_yes : rYes s Qb = Qb true s := rfl
theorem e_lc {ri : RA} {gt : RG} {vs : List Nat} : rLc ri gt ta ra vs s Ql = ri s fun ds s1 => LcG ds s1 gt ta ra vs Ql := rfl
theorem e_rng1 : rRng1 rr s Ql = rr s fun ds s1 => RG1 ds (fun es => Ql es s1) tg := by
  unfold rRng1 RG1
  rfl
theorem e_RG1 {K : List D → Prop} : RG1 [.int a] K tg = (inR a ∧ K ((List.range a.toNat).map fun i => D.int (0 + (i : Nat)))) := propext ⟨fun ⟨_, e, h⟩ => by cases e; exact h, fun h => ⟨_, rfl, h⟩⟩
theorem e_rng2 : rRng2 rr s Ql = rr s fun ds s1 => RG2 ds (fun es => Ql es s1) tg := by
  unfold rRng2 RG2
  rfl
theorem e_RG2 {K : List D → Prop} : RG2 [.int a, .int b] K tg = (inR a ∧ inR b ∧ K ((List.range (b - a).toNat).map fun m => D.int (a + (m : Nat)))) := propext ⟨fun ⟨_, _, e, h⟩ => by cases e; exact h, fun h => ⟨_, _, rfl, h⟩⟩
theorem e_revRng : rRevRng ra s Ql = ra s fun d s1 => IG d (fun n => inR n ∧ Ql ((List.range n.toNat).map fun i => D.int (0 + ((n.toNat : Nat) : Int) - 1 + ((i : Nat) : Int) * (-1))) s1) tg := rfl
theorem e_zip : rZip rr s Ql = rr s fun ds s1 => ZG ds (fun es => Ql es s1) tg := by
  unfold rZip ZG
  rfl
theorem zg_tup {K : List D → Prop} : ZG [.tup ds, .tup es] K tg = K (zipD ds es) := propext ⟨fun ⟨_, _, _, _, e, h, q⟩ => (by cases e; rcases h with ⟨h, _⟩ | ⟨h1, h2⟩ <;> first | (cases h; done) | (cases h1; cases h2; exact q)), fun h => ⟨_, _, _, _, rfl, .inr ⟨rfl, rfl⟩, h⟩⟩
theorem zg_lst {K : List D → Prop} : ZG [.lst ds, .lst es] K tg = K (zipD ds es) := propext ⟨fun ⟨_, _, _, _, e, h, q⟩ => (by cases e; rcases h with ⟨h1, h2⟩ | ⟨h, _⟩ <;> first | (cases h1; cases h2; exact q) | (cases h; done)), fun h => ⟨_, _, _, _, rfl, .inl ⟨rfl, rfl⟩, h⟩⟩
theorem e_revF : rRevF ra s Ql = ra s fun d s1 => dRev d fun ds => Ql ds s1 := rfl
theorem e_lstRg : rLstRg ra s Ql = ra s fun d s1 => IG d (fun n => (0 ≤ n ∧ n ≤ 16777216) ∧ Ql (rgD 0 n) s1) tg := rfl
theorem o_add_i : dAdd (.int a) (.int b) q = q (.int (a + b)) := rfl
theorem o_add_b : dAdd (.int a) (.bl c) q = q (.int (a + b2i c)) := rfl
theorem o_add_t : dAdd (.tup ds) (.tup es) q = (ds.length + es.length ≤ sizeLine ∧ q (.tup (ds ++ es))) := rfl
theorem o_add_l : dAdd (.lst ds) (.lst es) q = (ds.length + es.length ≤ sizeLine ∧ q (.lst (ds ++ es))) := rfl
theorem o_sub : dSub (.int a) (.int b) q = q (.int (a - b)) := rfl
theorem o_mul : dMul (.int a) (.int b) q = (CM a b ∧ q (.int (a * b))) := rfl
theorem o_mul_l : dMul (.lst ds) (.int b) q = ((-(2 ^ 63) ≤ b ∧ b < 2 ^ 63 ∧ ds.length * b.toNat ≤ sizeLine) ∧ q (.lst (List.replicate b.toNat ds).flatten)) := rfl
theorem o_div : dDiv (.int a) (.int b) q = (CDivZ b ∧ q (.int (a.fdiv b))) := rfl
theorem o_mod : dMod (.int a) (.int b) q = (b ≠ 0 ∧ q (.int (a.fmod b))) := rfl
theorem o_pow : dPow (.int a) (.int b) q = (CPow a b ∧ q (.int (a ^ b.toNat))) := rfl
theorem o_lt : dLt (.int a) (.int b) q = q (.bl (decide (a < b))) := rfl
theorem o_le : dLe (.int a) (.int b) q = q (.bl (decide (a ≤ b))) := rfl
theorem o_gt : dGt (.int a) (.int b) q = q (.bl (decide (b < a))) := rfl
theorem o_ge : dGe (.int a) (.int b) q = q (.bl (decide (b ≤ a))) := rfl
theorem o_eq_i : dEq (.int a) (.int b) q = q (.bl (a == b)) := propext ⟨fun h => h.2.2, fun h => ⟨rfl, rfl, h⟩⟩
theorem o_ne_i : dNe (.int a) (.int b) q = q (.bl (!(a == b))) := propext ⟨fun h => h.2.2, fun h => ⟨rfl, rfl, h⟩⟩
theorem o_ix_t : dIx (.tup ds) (.int a) q = PG (atI ds a) q tg := rfl
theorem o_ix_l : dIx (.lst ds) (.int a) q = PG (atI ds a) q tg := rfl
theorem o_ix_s {ns : List Int} : dIx (.scr ns) (.int a) q = PG (atI (ns.map D.int) a) q tg := rfl
theorem o_len_t : dLen (.tup ds) q = q (.int (ds.length : Nat)) := ex1 fun _ _ e => Option.some.inj e
theorem o_len_l : dLen (.lst ds) q = q (.int (ds.length : Nat)) := ex1 fun _ _ e => Option.some.inj e
theorem o_len_s {ns : List Int} : dLen (.scr ns) q = q (.int ((ns.map D.int).length : Nat)) := ex1 fun _ _ e => Option.some.inj e
theorem o_abs : dAbs (.int a) q = q (.int (if a < 0 then -a else a)) := rfl
theorem o_int_i : dInt (.int a) q = q (.int a) := rfl
theorem o_int_b : dInt (.bl c) q = q (.int (if c then 1 else 0)) := rfl
theorem o_tuple : dTuple d q = SG d (fun ds => q (.tup ds)) tg := rfl
theorem o_list {K : List D → Prop} : dList d K = SG d K tg := rfl
theorem o_sum_t : dSum (.tup ds) q = ∃ ns : List Int, ds = ns.map D.int ∧ q (.int ns.sum) := by unfold dSum itemsD; simp only [Option.some.injEq]
theorem o_sum_l : dSum (.lst ds) q = ∃ ns : List Int, ds = ns.map D.int ∧ q (.int ns.sum) := by unfold dSum itemsD; simp only [Option.some.injEq]
theorem o_gcd : dGcd (.int a) (.int b) q = q (.int ((Nat.gcd a.natAbs b.natAbs : Nat) : Int)) := rfl
theorem o_divmod : dDivmod (.int a) (.int b) q = (CDivM b ∧ q (.tup [.int (a / b), .int (a % b)])) := rfl
theorem o_isB {c' : Bool} : dIsB (.bl c) (.bl c') q = q (.bl (decide (c = c'))) := rfl
theorem o_notB {c' : Bool} : dNotB (.bl c) (.bl c') q = q (.bl (!decide (c = c'))) := rfl
theorem o_sl_t {lo hi : Option Int} : dSl (.tup ds) lo hi q = q (.tup (cut ds lo hi)) := rfl
theorem o_sl_l {lo hi : Option Int} : dSl (.lst ds) lo hi q = q (.lst (cut ds lo hi)) := rfl
theorem o_rev_l {K : List D → Prop} : dRev (.lst ds) K = K ds.reverse := rfl
theorem o_all : dAll (.lst ds) q = ∃ bs : List Bool, ds = bs.map D.bl ∧ q (.bl (bs.all fun b => b)) := rfl
theorem o_any : dAny (.lst ds) q = ∃ bs : List Bool, ds = bs.map D.bl ∧ q (.bl (bs.any fun b => b)) := rfl
theorem e_put {y : Sl} : put ⟨m, l⟩ i y = ⟨m, l.set i y⟩ := rfl
theorem pk_mset {ad : Addr} : peekL (mset m ad (.lst ds)) (some (.val (.hnd (.ref ad)))) = some (.lst ds) := by
  show (match mset m ad (.lst ds) ad with
    | some (MO.lst ds) => some (D.lst ds)
    | none => some (D.hnd (.ref ad))) = _
  rw [mset_same]
theorem mset_s {ad : Addr} {o : MO} : mset m ad o ad = some o := mset_same
theorem ix_1_0 : ixN 1 0 = some 0 := rfl
theorem ix_2_0 : ixN 2 0 = some 0 := rfl
theorem ix_2_1 : ixN 2 1 = some 1 := rfl
theorem ix_3_0 : ixN 3 0 = some 0 := rfl
theorem ix_3_1 : ixN 3 1 = some 1 := rfl
theorem ix_3_2 : ixN 3 2 = some 2 := rfl
theorem ix_4_0 : ixN 4 0 = some 0 := rfl
theorem ix_4_1 : ixN 4 1 = some 1 := rfl
theorem ix_4_2 : ixN 4 2 = some 2 := rfl
theorem ix_4_3 : ixN 4 3 = some 3 := rfl
theorem ix_5_0 : ixN 5 0 = some 0 := rfl
theorem ix_5_1 : ixN 5 1 = some 1 := rfl
theorem ix_5_2 : ixN 5 2 = some 2 := rfl
theorem ix_5_3 : ixN 5 3 = some 3 := rfl
theorem ix_5_4 : ixN 5 4 = some 4 := rfl
theorem ix_6_0 : ixN 6 0 = some 0 := rfl
theorem ix_6_1 : ixN 6 1 = some 1 := rfl
theorem ix_6_2 : ixN 6 2 = some 2 := rfl
theorem ix_6_3 : ixN 6 3 = some 3 := rfl
theorem ix_6_4 : ixN 6 4 = some 4 := rfl
theorem ix_6_5 : ixN 6 5 = some 5 := rfl
theorem ix_7_0 : ixN 7 0 = some 0 := rfl
theorem ix_7_1 : ixN 7 1 = some 1 := rfl
theorem ix_7_2 : ixN 7 2 = some 2 := rfl
theorem ix_7_3 : ixN 7 3 = some 3 := rfl
theorem ix_7_4 : ixN 7 4 = some 4 := rfl
theorem ix_7_5 : ixN 7 5 = some 5 := rfl
theorem ix_7_6 : ixN 7 6 = some 6 := rfl
end
end DL

/-! part DLr -/
namespace DL
open PySem PySem.Spec PyProof.Rows L2

/-! ### written texts are texts -/
theorem so_str (s : String) : PyData.strOk (Str.ofString s) = true := by
  unfold PyData.strOk
  rw [Str.ofString_eq_toList]
  rw [Array.all_eq_true]
  intro i hi
  simp only [List.size_toArray, List.length_map] at hi
  simp only [List.getElem_toArray, List.getElem_map, decide_eq_true_eq]
  have := (s.toList[i]).valid
  unfold UInt32.isValidChar Nat.isValidChar at this
  show (s.toList[i]).val.toNat < 0x110000
  omega
theorem so_app {a b : Str} (h1 : PyData.strOk a = true) (h2 : PyData.strOk b = true) : PyData.strOk (a ++ b) = true := by
  show (a.cps ++ b.cps).all _ = true
  rw [Array.all_append]
  unfold PyData.strOk at h1 h2
  rw [h1, h2]
  rfl
theorem so_from : ∀ (ts : List Str) (k : Nat) (acc : Str), PyData.strOk acc = true → (∀ t ∈ ts, PyData.strOk t = true) → PyData.strOk (textFrom k acc ts) = true
  | [], _, _, h, _ => h
  | t :: r, k, acc, h, w => by
    refine so_from r (k + 1) _ (so_app (so_app h ?_) (w t (by simp))) fun u hu => w u (by simp [hu])
    exact so_str _
theorem so_join : ∀ ts : List Str, (∀ t ∈ ts, PyData.strOk t = true) → PyData.strOk (Str.join ", " ts) = true
  | [], _ => by decide +kernel
  | [t], w => w t (by simp)
  | t :: u :: r, w => so_app (so_app (w t (by simp)) (so_str _)) (so_join (u :: r) fun x hx => w x (by simp at hx ⊢; exact .inr hx))
mutual
/-- written texts of texts are texts -/
def D.tx : D → Bool
  | .str x => PyData.strOk (reprText x)
  | .lst ds => txs ds
  | .tup ds => txs ds
  | .scr _ => false
  | _ => true
def txs : List D → Bool
  | [] => true
  | d :: ds => d.tx && txs ds
end
mutual
theorem rep_so : ∀ d : D, d.tx = true → PyData.strOk (rep d) = true
  | .non, _ => so_str _
  | .bl b, _ => by cases b <;> exact so_str _
  | .int i, _ => so_str _
  | .str x, h => h
  | .lst ds, h => so_app (so_from _ 0 _ (so_str _) (reps_so ds h)) (so_str _)
  | .tup ds, h => so_app (so_app (so_str _) (so_join _ (reps_so ds h))) (so_str _)
  | .scr _, h => by cases h
  | .hnd _, _ => so_str _
theorem reps_so : ∀ ds : List D, txs ds = true → ∀ t ∈ PyData.shownAll (pys ds), PyData.strOk t = true
  | [], _, t, h => by cases h
  | d :: ds, w, t, h => by
    have w : (d.tx && txs ds) = true := w
    obtain ⟨w1, w2⟩ := Bool.and_eq_true_iff.mp w
    rcases List.mem_cons.mp h with h | h
    · rw [h]
      exact rep_so d w1
    · exact reps_so ds w2 t h
end
/-! ### checks of data by parts -/
mutual
/-- ints, bools, none, lists and tuples of such, ints of less than 1920 bits, nested less than n deep, at most this many ints -/
def D.pl : D → Nat → Bool
  | .non, _ => true
  | .bl _, _ => true
  | .int i, _ => decide (i.natAbs.log2 < 1920)
  | .lst ds, n => (match n with
    | 0 => false
    | m + 1 => pls ds m)
  | .tup ds, n => (match n with
    | 0 => false
    | m + 1 => pls ds m)
  | _, _ => false
def pls : List D → Nat → Bool
  | [], _ => true
  | d :: ds, n => d.pl n && pls ds n
end
mutual
theorem pl_ok : ∀ (d : D) (n : Nat), d.pl n = true → d.ok n = true ∧ d.shw = true ∧ d.tx = true
  | .non, _, _ => ⟨rfl, rfl, rfl⟩
  | .bl _, _, _ => ⟨rfl, rfl, rfl⟩
  | .int i, _, h => ⟨rfl, h, rfl⟩
  | .str _, _, h => by simp [D.pl] at h
  | .lst ds, 0, h => by simp [D.pl] at h
  | .tup ds, 0, h => by simp [D.pl] at h
  | .lst ds, n + 1, h => pls_ok ds n h
  | .tup ds, n + 1, h => pls_ok ds n h
  | .scr _, _, h => by simp [D.pl] at h
  | .hnd _, _, h => by simp [D.pl] at h
theorem pls_ok : ∀ (ds : List D) (n : Nat), pls ds n = true → oks ds n = true ∧ shws ds = true ∧ txs ds = true
  | [], _, _ => ⟨rfl, rfl, rfl⟩
  | d :: ds, n, h => by
    have h : (d.pl n && pls ds n) = true := h
    obtain ⟨h1, h2⟩ := Bool.and_eq_true_iff.mp h
    obtain ⟨a1, a2, a3⟩ := pl_ok d n h1
    obtain ⟨b1, b2, b3⟩ := pls_ok ds n h2
    refine ⟨?_, ?_, ?_⟩
    · show (d.ok n && oks ds n) = true
      rw [a1, b1]; rfl
    · show (d.shw && shws ds) = true
      rw [a2, b2]; rfl
    · show (d.tx && txs ds) = true
      rw [a3, b3]; rfl
end
theorem pls_app : ∀ (a b : List D) (n : Nat), pls (a ++ b) n = (pls a n && pls b n)
  | [], b, n => by rw [List.nil_append]; rfl
  | d :: a, b, n => by
    show (d.pl n && pls (a ++ b) n) = ((d.pl n && pls a n) && pls b n)
    rw [pls_app a b n, Bool.and_assoc]
theorem pls_all {n : Nat} : ∀ {ds : List D}, (∀ d ∈ ds, d.pl n = true) → pls ds n = true
  | [], _ => rfl
  | d :: ds, h => by
    show (d.pl n && pls ds n) = true
    rw [h d (by simp), pls_all fun x hx => h x (by simp [hx])]
    rfl
theorem szs_all {c : Nat} : ∀ {ds : List D}, (∀ d ∈ ds, d.sz ≤ c) → szs ds ≤ ds.length * (c + 2)
  | [], _ => by show 0 ≤ _; omega
  | d :: ds, h => by
    show d.sz + 2 + szs ds ≤ (ds.length + 1) * (c + 2)
    have h1 := h d (by simp)
    have h2 := szs_all (ds := ds) fun x hx => h x (List.mem_cons_of_mem _ hx)
    rw [Nat.add_mul]
    omega
end DL

/-! part K48R -/
namespace DL
open PySem PySem.Spec PyProof.Rows L2
/-! readings -/
/- a_want: 0 good, 1 word -/
def R_a_want : RS := (rIfS (rNot (rTru (rPeek 0))) rNever rNext)
/- is_integer: 0 thing -/
def R_is_integer : RS := (rRet (rAndV (rIs "int" (rVar 0)) (rNotV (rIs "bool" (rVar 0)))))
/- is_number: 0 thing -/
def R_is_number (sp_is_integer : DSp) : RS := (rRet (rAndV (rCall sp_is_integer (rCons (rVar 0) rNil)) (rBin dGe (rVar 0) (rC (.int 0)))))
/- is_base: 0 thing -/
def R_is_base (sp_is_integer : DSp) : RS := (rRet (rAndV (rCall sp_is_integer (rCons (rVar 0) rNil)) (rChn dLe dLe (rC (.int 2)) (rVar 0) (rC (.int 256)))))
/- is_quotient: 0 thing, 1 top, 2 bottom -/
def R_is_quotient (sp_is_integer : DSp) : RS := (rSeq (rIfS (rOr (rNot (rTru (rIs "tuple" (rVar 0)))) (rB (rBin dNe (rOne dLen (rPeek 0)) (rC (.int 2))))) (rRet (rC (.bl false))) rNext)
    (rSeq (rAsg (rVar 0) (gTp 2 (gsCons (gNm 1) (gsCons (gNm 2) gsNil))))
    (rSeq (rIfS (rOr (rNot (rTru (rCall sp_is_integer (rCons (rVar 1) rNil)))) (rOr (rNot (rTru (rCall sp_is_integer (rCons (rVar 2) rNil)))) (rB (rBin dLt (rVar 2) (rC (.int 1)))))) (rRet (rC (.bl false))) rNext)
    (rRet (rBin dEq (rBin dGcd (rVar 1) (rVar 2)) (rC (.int 1)))))))
/- a_is_numbers: 0 thing, 1 part -/
def R_a_is_numbers (sp_is_number : DSp) : RS := (rRet (rAndV (rIs "tuple" (rVar 0)) (rOne dAll (rFz (rLc (rItems (rVar 0)) (gNm 1) rYes (rCall sp_is_number (rCons (rVar 1) rNil)) [1])))))
/- is_digits: 0 base, 1 thing, 2 part -/
def R_is_digits (sp_a_want sp_is_base sp_a_is_numbers : DSp) : RS := (rSeq (rDrop (rCall sp_a_want (rCons (rCall sp_is_base (rCons (rVar 0) rNil)) (rCons (rC (.str "base")) rNil))))
    (rRet (rAndV (rCall sp_a_is_numbers (rCons (rVar 1) rNil)) (rOne dAll (rFz (rLc (rItems (rVar 1)) (gNm 2) rYes (rBin dLt (rVar 2) (rVar 0)) [2]))))))
/- a_lowest: 0 top, 1 bottom, 2 common -/
def R_a_lowest : RS := (rSeq (rSet 2 (rBin dGcd (rVar 0) (rVar 1)))
    (rSeq (rIfS (rB (rBin dLt (rVar 1) (rC (.int 0)))) (rSet 2 (rNeg (rVar 2))) rNext)
    (rRet (rTup (rCons (rBin dDiv (rVar 0) (rVar 2)) (rCons (rBin dDiv (rVar 1) (rVar 2)) rNil))))))
/- _want_both: 0 one, 1 other -/
def R_Uwant_both (sp_a_want sp_is_quotient : DSp) : RS := (rSeq (rDrop (rCall sp_a_want (rCons (rCall sp_is_quotient (rCons (rVar 0) rNil)) (rCons (rC (.str "one")) rNil))))
    (rDrop (rCall sp_a_want (rCons (rCall sp_is_quotient (rCons (rVar 1) rNil)) (rCons (rC (.str "other")) rNil)))))
/- plus: 0 one, 1 other -/
def R_plus (sp_Uwant_both sp_a_lowest : DSp) : RS := (rSeq (rDrop (rCall sp_Uwant_both (rCons (rVar 0) (rCons (rVar 1) rNil))))
    (rRet (rCall sp_a_lowest (rCons (rBin dAdd (rBin dMul (rIxN 0 (rC (.int 0))) (rIxN 1 (rC (.int 1)))) (rBin dMul (rIxN 1 (rC (.int 0))) (rIxN 0 (rC (.int 1))))) (rCons (rBin dMul (rIxN 0 (rC (.int 1))) (rIxN 1 (rC (.int 1)))) rNil)))))
/- minus: 0 one, 1 other -/
def R_minus (sp_Uwant_both sp_a_lowest : DSp) : RS := (rSeq (rDrop (rCall sp_Uwant_both (rCons (rVar 0) (rCons (rVar 1) rNil))))
    (rRet (rCall sp_a_lowest (rCons (rBin dSub (rBin dMul (rIxN 0 (rC (.int 0))) (rIxN 1 (rC (.int 1)))) (rBin dMul (rIxN 1 (rC (.int 0))) (rIxN 0 (rC (.int 1))))) (rCons (rBin dMul (rIxN 0 (rC (.int 1))) (rIxN 1 (rC (.int 1)))) rNil)))))
/- times: 0 one, 1 other -/
def R_times (sp_Uwant_both sp_a_lowest : DSp) : RS := (rSeq (rDrop (rCall sp_Uwant_both (rCons (rVar 0) (rCons (rVar 1) rNil))))
    (rRet (rCall sp_a_lowest (rCons (rBin dMul (rIxN 0 (rC (.int 0))) (rIxN 1 (rC (.int 0)))) (rCons (rBin dMul (rIxN 0 (rC (.int 1))) (rIxN 1 (rC (.int 1)))) rNil)))))
/- over: 0 one, 1 other -/
def R_over (sp_Uwant_both sp_a_want sp_a_lowest : DSp) : RS := (rSeq (rDrop (rCall sp_Uwant_both (rCons (rVar 0) (rCons (rVar 1) rNil))))
    (rSeq (rDrop (rCall sp_a_want (rCons (rBin dNe (rIxN 1 (rC (.int 0))) (rC (.int 0))) (rCons (rC (.str "other")) rNil))))
    (rRet (rCall sp_a_lowest (rCons (rBin dMul (rIxN 0 (rC (.int 0))) (rIxN 1 (rC (.int 1)))) (rCons (rBin dMul (rIxN 0 (rC (.int 1))) (rIxN 1 (rC (.int 0)))) rNil))))))
/- compare: 0 one, 1 other, 2 left, 3 right -/
def R_compare (sp_Uwant_both : DSp) : RS := (rSeq (rDrop (rCall sp_Uwant_both (rCons (rVar 0) (rCons (rVar 1) rNil))))
    (rSeq (rSet 2 (rBin dMul (rIxN 0 (rC (.int 0))) (rIxN 1 (rC (.int 1)))))
    (rSeq (rSet 3 (rBin dMul (rIxN 1 (rC (.int 0))) (rIxN 0 (rC (.int 1)))))
    (rSeq (rIfS (rB (rBin dLt (rVar 2) (rVar 3))) (rRet (rNeg (rC (.int 1)))) rNext)
    (rRet (rIf (rB (rBin dGt (rVar 2) (rVar 3))) (rC (.int 1)) (rC (.int 0))))))))
/- _numbers: 0 thing, 1 one -/
def R_Unumbers (sp_is_number : DSp) : RS := (rSeq (rIfS (rNot (rTru (rIs "tuple" (rVar 0)))) (rRet (rC (.bl false))) rNext)
    (rSeq (rFor (rItems (rVar 0)) (gNm 1) (rIfS (rNot (rTru (rCall sp_is_number (rCons (rVar 1) rNil)))) (rRet (rC (.bl false))) rNext))
    (rRet (rC (.bl true)))))
/- is_table: 0 thing -/
def R_is_table (sp_Unumbers : DSp) : RS := (rRet (rAndV (rCall sp_Unumbers (rCons (rVar 0) rNil)) (rBin dGt (rOne dSum (rPeek 0)) (rC (.int 0)))))
/- b_stands: 0 table, 1 letter -/
def R_b_stands (sp_is_number : DSp) : RS := (rRet (rAndV (rCall sp_is_number (rCons (rVar 1) rNil)) (rAndV (rBin dLt (rVar 1) (rOne dLen (rPeek 0))) (rBin dGt (rIxN 0 (rVar 1)) (rC (.int 0))))))
/- b_table_letter: 0 table, 1 letter -/
def R_b_table_letter (sp_a_want sp_is_table sp_b_stands : DSp) : RS := (rSeq (rDrop (rCall sp_a_want (rCons (rCall sp_is_table (rCons (rVar 0) rNil)) (rCons (rC (.str "table")) rNil))))
    (rDrop (rCall sp_a_want (rCons (rCall sp_b_stands (rCons (rVar 0) (rCons (rVar 1) rNil))) (rCons (rC (.str "letter")) rNil)))))
/- b_are_tables: 0 tables, 1 table -/
def R_b_are_tables (sp_is_table : DSp) : RS := (rSeq (rIfS (rNot (rTru (rIs "tuple" (rVar 0)))) (rRet (rC (.bl false))) rNext)
    (rSeq (rFor (rItems (rVar 0)) (gNm 1) (rIfS (rNot (rTru (rCall sp_is_table (rCons (rVar 1) rNil)))) (rRet (rC (.bl false))) rNext))
    (rRet (rC (.bl true)))))
/- b_fit: 0 tables, 1 letters, 2 table, 3 letter -/
def R_b_fit (sp_b_stands : DSp) : RS := (rSeq (rIfS (rOr (rNot (rTru (rIs "tuple" (rVar 1)))) (rB (rBin dNe (rOne dLen (rPeek 1)) (rOne dLen (rPeek 0))))) (rRet (rC (.bl false))) rNext)
    (rSeq (rFor (rZip (rCons (rVar 0) (rCons (rVar 1) rNil))) (gTp 2 (gsCons (gNm 2) (gsCons (gNm 3) gsNil))) (rIfS (rNot (rTru (rCall sp_b_stands (rCons (rVar 2) (rCons (rVar 3) rNil))))) (rRet (rC (.bl false))) rNext))
    (rRet (rC (.bl true)))))
/- b_tables_letters: 0 tables, 1 letters -/
def R_b_tables_letters (sp_a_want sp_b_are_tables sp_b_fit : DSp) : RS := (rSeq (rDrop (rCall sp_a_want (rCons (rCall sp_b_are_tables (rCons (rVar 0) rNil)) (rCons (rC (.str "tables")) rNil))))
    (rDrop (rCall sp_a_want (rCons (rCall sp_b_fit (rCons (rVar 0) (rCons (rVar 1) rNil))) (rCons (rC (.str "letters")) rNil)))))
/- chance_of: 0 table, 1 letter -/
def R_chance_of (sp_b_table_letter sp_over : DSp) : RS := (rSeq (rDrop (rCall sp_b_table_letter (rCons (rVar 0) (rCons (rVar 1) rNil))))
    (rRet (rCall sp_over (rCons (rTup (rCons (rIxN 0 (rVar 1)) (rCons (rC (.int 1)) rNil))) (rCons (rTup (rCons (rOne dSum (rPeek 0)) (rCons (rC (.int 1)) rNil))) rNil)))))
/- is_lean: 0 thing, 1 one, 2 growth, 3 low, 4 high -/
def R_is_lean (sp_is_quotient sp_compare : DSp) : RS := (rSeq (rIfS (rOr (rNot (rTru (rIs "tuple" (rVar 0)))) (rB (rBin dNe (rOne dLen (rPeek 0)) (rC (.int 3))))) (rRet (rC (.bl false))) rNext)
    (rSeq (rFor (rItems (rVar 0)) (gNm 1) (rIfS (rNot (rTru (rCall sp_is_quotient (rCons (rVar 1) rNil)))) (rRet (rC (.bl false))) rNext))
    (rSeq (rAsg (rVar 0) (gTp 3 (gsCons (gNm 2) (gsCons (gNm 3) (gsCons (gNm 4) gsNil)))))
    (rRet (rAndV (rBin dGt (rIxN 2 (rC (.int 0))) (rC (.int 0))) (rBin dLe (rCall sp_compare (rCons (rVar 3) (rCons (rVar 4) rNil))) (rC (.int 0))))))))
/- lean_after: 0 one, 1 other, 2 growth, 3 low, 4 high, 5 more, 6 least, 7 most -/
def R_lean_after (sp_a_want sp_is_lean sp_plus sp_times : DSp) : RS := (rSeq (rDrop (rCall sp_a_want (rCons (rCall sp_is_lean (rCons (rVar 0) rNil)) (rCons (rC (.str "one")) rNil))))
    (rSeq (rDrop (rCall sp_a_want (rCons (rCall sp_is_lean (rCons (rVar 1) rNil)) (rCons (rC (.str "other")) rNil))))
    (rSeq (rAsg (rVar 0) (gTp 3 (gsCons (gNm 2) (gsCons (gNm 3) (gsCons (gNm 4) gsNil)))))
    (rSeq (rAsg (rVar 1) (gTp 3 (gsCons (gNm 5) (gsCons (gNm 6) (gsCons (gNm 7) gsNil)))))
    (rRet (rTup (rCons (rCall sp_times (rCons (rVar 2) (rCons (rVar 5) rNil))) (rCons (rCall sp_plus (rCons (rCall sp_times (rCons (rVar 5) (rCons (rVar 3) rNil))) (rCons (rVar 6) rNil))) (rCons (rCall sp_plus (rCons (rCall sp_times (rCons (rVar 5) (rCons (rVar 4) rNil))) (rCons (rVar 7) rNil))) rNil)))))))))
/- lean_back: 0 one, 1 growth, 2 low, 3 high -/
def R_lean_back (sp_a_want sp_is_lean sp_over sp_minus : DSp) (g_NOUGHT : D) : RS := (rSeq (rDrop (rCall sp_a_want (rCons (rCall sp_is_lean (rCons (rVar 0) rNil)) (rCons (rC (.str "one")) rNil))))
    (rSeq (rAsg (rVar 0) (gTp 3 (gsCons (gNm 1) (gsCons (gNm 2) (gsCons (gNm 3) gsNil)))))
    (rRet (rTup (rCons (rCall sp_over (rCons (rTup (rCons (rC (.int 1)) (rCons (rC (.int 1)) rNil))) (rCons (rVar 1) rNil))) (rCons (rCall sp_over (rCons (rCall sp_minus (rCons (rC g_NOUGHT) (rCons (rVar 3) rNil))) (rCons (rVar 1) rNil))) (rCons (rCall sp_over (rCons (rCall sp_minus (rCons (rC g_NOUGHT) (rCons (rVar 2) rNil))) (rCons (rVar 1) rNil))) rNil)))))))
/- lean_holds: 0 lean, 1 stack, 2 after, 3 growth, 4 low, 5 high, 6 beyond -/
def R_lean_holds (sp_a_want sp_is_lean sp_is_number sp_minus sp_times sp_compare : DSp) : RS := (rSeq (rDrop (rCall sp_a_want (rCons (rCall sp_is_lean (rCons (rVar 0) rNil)) (rCons (rC (.str "lean")) rNil))))
    (rSeq (rDrop (rCall sp_a_want (rCons (rCall sp_is_number (rCons (rVar 1) rNil)) (rCons (rC (.str "stack")) rNil))))
    (rSeq (rDrop (rCall sp_a_want (rCons (rCall sp_is_number (rCons (rVar 2) rNil)) (rCons (rC (.str "after")) rNil))))
    (rSeq (rAsg (rVar 0) (gTp 3 (gsCons (gNm 3) (gsCons (gNm 4) (gsCons (gNm 5) gsNil)))))
    (rSeq (rSet 6 (rCall sp_minus (rCons (rTup (rCons (rVar 2) (rCons (rC (.int 1)) rNil))) (rCons (rCall sp_times (rCons (rVar 3) (rCons (rTup (rCons (rVar 1) (rCons (rC (.int 1)) rNil))) rNil))) rNil))))
    (rRet (rAndV (rBin dLe (rCall sp_compare (rCons (rVar 4) (rCons (rVar 6) rNil))) (rC (.int 0))) (rBin dLe (rCall sp_compare (rCons (rVar 6) (rCons (rVar 5) rNil))) (rC (.int 0))))))))))
/- b_lean_by: 0 table, 1 letter, 2 size, 3 many, 4 ahead, 5 below, 6 lost -/
def R_b_lean_by (sp_over sp_minus : DSp) : RS := (rSeq (rPar3 2 3 4 (rCons (rOne dSum (rPeek 0)) (rCons (rIxN 0 (rVar 1)) (rCons (rOne dSum (rSlN 0 rONone (rOSome (rVar 1)))) rNil))))
    (rSeq (rSet 5 (rTup (rCons (rVar 3) (rCons (rC (.int 1)) rNil))))
    (rSeq (rSet 6 (rCall sp_over (rCons (rTup (rCons (rBin dMul (rBin dSub (rVar 2) (rVar 3)) (rBin dSub (rVar 3) (rC (.int 1)))) (rCons (rC (.int 1)) rNil))) (rCons (rVar 5) rNil))))
    (rRet (rTup (rCons (rCall sp_over (rCons (rTup (rCons (rVar 2) (rCons (rC (.int 1)) rNil))) (rCons (rVar 5) rNil))) (rCons (rCall sp_minus (rCons (rTup (rCons (rVar 4) (rCons (rC (.int 1)) rNil))) (rCons (rVar 6) rNil))) (rCons (rTup (rCons (rVar 4) (rCons (rC (.int 1)) rNil))) rNil))))))))
/- push_by: 0 stack, 1 table, 2 letter, 3 many -/
def R_push_by (sp_a_want sp_is_number sp_b_table_letter : DSp) : RS := (rSeq (rDrop (rCall sp_a_want (rCons (rCall sp_is_number (rCons (rVar 0) rNil)) (rCons (rC (.str "stack")) rNil))))
    (rSeq (rDrop (rCall sp_b_table_letter (rCons (rVar 1) (rCons (rVar 2) rNil))))
    (rSeq (rSet 3 (rIxN 1 (rVar 2)))
    (rRet (rBin dAdd (rBin dAdd (rBin dMul (rOne dSum (rPeek 1)) (rBin dDiv (rVar 0) (rVar 3))) (rOne dSum (rSlN 1 rONone (rOSome (rVar 2))))) (rBin dMod (rVar 0) (rVar 3)))))))
/- pop_by: 0 stack, 1 table, 2 laps, 3 place, 4 letter -/
def R_pop_by (sp_a_want sp_is_number sp_is_table : DSp) : RS := (rSeq (rDrop (rCall sp_a_want (rCons (rCall sp_is_number (rCons (rVar 0) rNil)) (rCons (rC (.str "stack")) rNil))))
    (rSeq (rDrop (rCall sp_a_want (rCons (rCall sp_is_table (rCons (rVar 1) rNil)) (rCons (rC (.str "table")) rNil))))
    (rSeq (rAsg (rBin dDivmod (rVar 0) (rOne dSum (rPeek 1))) (gTp 2 (gsCons (gNm 2) (gsCons (gNm 3) gsNil))))
    (rSeq (rSet 4 (rC (.int 0)))
    (rSeq (rWhile (rB (rBin dGe (rVar 3) (rIxN 1 (rVar 4)))) (rSeq (rAug 3 (fun i j => i - j) (rIxN 1 (rVar 4)))
    (rAug 4 (fun i j => i + j) (rC (.int 1)))))
    (rRet (rTup (rCons (rVar 4) (rCons (rBin dAdd (rBin dMul (rIxN 1 (rVar 4)) (rVar 2)) (rVar 3)) rNil)))))))))
/- push_letters: 0 stack, 1 tables, 2 letters, 3 place -/
def R_push_letters (sp_a_want sp_is_number sp_b_tables_letters sp_push_by : DSp) : RS := (rSeq (rDrop (rCall sp_a_want (rCons (rCall sp_is_number (rCons (rVar 0) rNil)) (rCons (rC (.str "stack")) rNil))))
    (rSeq (rDrop (rCall sp_b_tables_letters (rCons (rVar 1) (rCons (rVar 2) rNil))))
    (rSeq (rFor (rRevRng (rOne dLen (rPeek 1))) (gNm 3) (rSet 0 (rCall sp_push_by (rCons (rVar 0) (rCons (rIxN 1 (rVar 3)) (rCons (rIxN 2 (rVar 3)) rNil))))))
    (rRet (rVar 0)))))
/- pop_letters: 0 stack, 1 tables, 2 letters, 3 table, 4 letter -/
def R_pop_letters (sp_a_want sp_is_number sp_b_are_tables sp_pop_by : DSp) : RS := (rSeq (rDrop (rCall sp_a_want (rCons (rCall sp_is_number (rCons (rVar 0) rNil)) (rCons (rC (.str "stack")) rNil))))
    (rSeq (rDrop (rCall sp_a_want (rCons (rCall sp_b_are_tables (rCons (rVar 1) rNil)) (rCons (rC (.str "tables")) rNil))))
    (rSeq (rSetF 2 (rLst rNil))
    (rSeq (rFor (rItems (rVar 1)) (gNm 3) (rSeq (rAsg (rCall sp_pop_by (rCons (rVar 0) (rCons (rVar 3) rNil))) (gTp 2 (gsCons (gNm 4) (gsCons (gNm 0) gsNil))))
    (rApp 2 (rVar 4))))
    (rRet (rTup (rCons (rOne dTuple (rPeek 2)) (rCons (rVar 0) rNil))))))))
/- lean_of_row: 0 tables, 1 letters, 2 whole, 3 place -/
def R_lean_of_row (sp_b_tables_letters sp_lean_after sp_b_lean_by : DSp) : RS := (rSeq (rDrop (rCall sp_b_tables_letters (rCons (rVar 0) (rCons (rVar 1) rNil))))
    (rSeq (rSet 2 (rTup (rCons (rTup (rCons (rC (.int 1)) (rCons (rC (.int 1)) rNil))) (rCons (rTup (rCons (rC (.int 0)) (rCons (rC (.int 1)) rNil))) (rCons (rTup (rCons (rC (.int 0)) (rCons (rC (.int 1)) rNil))) rNil)))))
    (rSeq (rFor (rRevRng (rOne dLen (rPeek 0))) (gNm 3) (rSet 2 (rCall sp_lean_after (rCons (rVar 2) (rCons (rCall sp_b_lean_by (rCons (rIxN 0 (rVar 3)) (rCons (rIxN 1 (rVar 3)) rNil))) rNil)))))
    (rRet (rVar 2)))))
/- row_of: 0 base, 1 stack, 2 digits, 3 left -/
def R_row_of (sp_a_want sp_is_base sp_is_number : DSp) : RS := (rSeq (rDrop (rCall sp_a_want (rCons (rCall sp_is_base (rCons (rVar 0) rNil)) (rCons (rC (.str "base")) rNil))))
    (rSeq (rDrop (rCall sp_a_want (rCons (rCall sp_is_number (rCons (rVar 1) rNil)) (rCons (rC (.str "stack")) rNil))))
    (rSeq (rSetF 2 (rLst rNil))
    (rSeq (rSet 3 (rVar 1))
    (rSeq (rWhile (rB (rBin dGt (rVar 3) (rC (.int 0)))) (rSeq (rApp 2 (rBin dMod (rBin dSub (rVar 3) (rC (.int 1))) (rVar 0)))
    (rSet 3 (rBin dDiv (rBin dSub (rVar 3) (rC (.int 1))) (rVar 0)))))
    (rRet (rOne dTuple (rFz (rRevF (rPeek 2))))))))))
/- stack_of: 0 base, 1 digits -/
def R_stack_of (sp_a_want sp_is_base sp_is_digits sp_added : DSp) : RS := (rSeq (rDrop (rCall sp_a_want (rCons (rCall sp_is_base (rCons (rVar 0) rNil)) (rCons (rC (.str "base")) rNil))))
    (rSeq (rDrop (rCall sp_a_want (rCons (rCall sp_is_digits (rCons (rVar 0) (rCons (rVar 1) rNil))) (rCons (rC (.str "digits")) rNil))))
    (rRet (rCall sp_added (rCons (rVar 0) (rCons (rC (.int 0)) (rCons (rVar 1) rNil)))))))
/- added: 0 base, 1 stack, 2 digits, 3 total, 4 digit -/
def R_added (sp_a_want sp_is_base sp_is_number sp_is_digits : DSp) : RS := (rSeq (rDrop (rCall sp_a_want (rCons (rCall sp_is_base (rCons (rVar 0) rNil)) (rCons (rC (.str "base")) rNil))))
    (rSeq (rDrop (rCall sp_a_want (rCons (rCall sp_is_number (rCons (rVar 1) rNil)) (rCons (rC (.str "stack")) rNil))))
    (rSeq (rDrop (rCall sp_a_want (rCons (rCall sp_is_digits (rCons (rVar 0) (rCons (rVar 2) rNil))) (rCons (rC (.str "digits")) rNil))))
    (rSeq (rSet 3 (rVar 1))
    (rSeq (rFor (rItems (rVar 2)) (gNm 4) (rSet 3 (rBin dAdd (rBin dAdd (rBin dMul (rVar 3) (rVar 0)) (rVar 4)) (rC (.int 1)))))
    (rRet (rVar 3)))))))
/- taken: 0 base, 1 stack, 2 many, 3 digits, 4 left -/
def R_taken (sp_a_want sp_is_base sp_is_number : DSp) : RS := (rSeq (rDrop (rCall sp_a_want (rCons (rCall sp_is_base (rCons (rVar 0) rNil)) (rCons (rC (.str "base")) rNil))))
    (rSeq (rDrop (rCall sp_a_want (rCons (rCall sp_is_number (rCons (rVar 1) rNil)) (rCons (rC (.str "stack")) rNil))))
    (rSeq (rDrop (rCall sp_a_want (rCons (rCall sp_is_number (rCons (rVar 2) rNil)) (rCons (rC (.str "many")) rNil))))
    (rSeq (rSetF 3 (rLst rNil))
    (rSeq (rSet 4 (rVar 1))
    (rSeq (rWhile (rB (rBin dLt (rOne dLen (rPeek 3)) (rVar 2))) (rSeq (rIfS (rB (rBin dEq (rVar 4) (rC (.int 0)))) rNever rNext)
    (rSeq (rApp 3 (rBin dMod (rBin dSub (rVar 4) (rC (.int 1))) (rVar 0)))
    (rSet 4 (rBin dDiv (rBin dSub (rVar 4) (rC (.int 1))) (rVar 0))))))
    (rRet (rTup (rCons (rOne dTuple (rFz (rRevF (rPeek 3)))) (rCons (rVar 4) rNil))))))))))
/- places_of: 0 base, 1 number, 2 many, 3 left -/
def R_places_of (sp_a_want sp_is_base sp_is_number : DSp) : RS := (rSeq (rDrop (rCall sp_a_want (rCons (rCall sp_is_base (rCons (rVar 0) rNil)) (rCons (rC (.str "base")) rNil))))
    (rSeq (rDrop (rCall sp_a_want (rCons (rCall sp_is_number (rCons (rVar 1) rNil)) (rCons (rC (.str "number")) rNil))))
    (rSeq (rSet 2 (rC (.int 0)))
    (rSeq (rSet 3 (rVar 1))
    (rSeq (rWhile (rB (rBin dGt (rVar 3) (rC (.int 0)))) (rSeq (rSet 3 (rBin dDiv (rVar 3) (rVar 0)))
    (rAug 2 (fun i j => i + j) (rC (.int 1)))))
    (rRet (rVar 2)))))))
/- reach_of: 0 base, 1 one, 2 many, 3 reached -/
def R_reach_of (sp_a_want sp_is_base sp_is_quotient : DSp) : RS := (rSeq (rDrop (rCall sp_a_want (rCons (rCall sp_is_base (rCons (rVar 0) rNil)) (rCons (rC (.str "base")) rNil))))
    (rSeq (rDrop (rCall sp_a_want (rCons (rAndV (rCall sp_is_quotient (rCons (rVar 1) rNil)) (rBin dGt (rIxN 1 (rC (.int 0))) (rC (.int 0)))) (rCons (rC (.str "one")) rNil))))
    (rSeq (rSet 2 (rC (.int 0)))
    (rSeq (rSet 3 (rIxN 1 (rC (.int 1))))
    (rSeq (rWhile (rB (rBin dLt (rVar 3) (rIxN 1 (rC (.int 0))))) (rSeq (rSet 3 (rBin dMul (rVar 3) (rVar 0)))
    (rAug 2 (fun i j => i + j) (rC (.int 1)))))
    (rRet (rVar 2)))))))
/- _law_well: 0 _law_script, 1 _law_cell -/
def R_Ulaw_well : RS := (rRetM (rLst (rCons (rFz (rLc (rItems (rVar 0)) (gNm 1) rYes (rBin dAdd (rBin dMul (rC (.int 2)) (rOne dAbs (rPeek 1))) (rOne dInt (rBin dLt (rVar 1) (rC (.int 0))))) [1])) (rCons (rC (.int 0)) (rCons (rC (.int 0)) (rCons (rC (.int 0)) rNil))))))
/- _law_dip: 0 _law_well_here, 1 _law_many, 2 _law_found, 3 _law_cells, 4 _law_at, 5 _law_cell, 6 _law_stir -/
def R_Ulaw_dip : RS := (rSeq (rSetIx 0 (rBin dAdd (rIxN 0 (rC (.int 3))) (rC (.int 1))) (rC (.int 3)))
    (rSeq (rIfS (rB (rBin dGt (rIxN 0 (rC (.int 2))) (rC (.int 0)))) (rSeq (rSet 2 (rBin dMod (rOne dInt (rIxN 0 (rC (.int 2)))) (rVar 1)))
    (rSeq (rSetIx 0 (rBin dDiv (rIxN 0 (rC (.int 2))) (rVar 1)) (rC (.int 2)))
    (rRet (rVar 2)))) rNext)
    (rSeq (rPar 3 4 (rCons (rIxN 0 (rC (.int 0))) (rCons (rIxN 0 (rC (.int 1))) rNil)))
    (rSeq (rSetIx 0 (rBin dAdd (rVar 4) (rC (.int 1))) (rC (.int 1)))
    (rSeq (rSet 5 (rIf (rB (rBin dNe (rVar 3) (rFz (rLst rNil)))) (rIxN 3 (rBin dMod (rOne dInt (rPeek 4)) (rOne dLen (rPeek 3)))) (rC (.int 48317))))
    (rSeq (rIfS (rAnd (rB (rBin dGe (rVar 5) (rBin dPow (rC (.int 10)) (rC (.int 17))))) (rB (rBin dLt (rVar 4) (rOne dLen (rPeek 3))))) (rSeq (rSetIx 0 (rBin dDiv (rVar 5) (rVar 1)) (rC (.int 2)))
    (rRet (rBin dMod (rOne dInt (rPeek 5)) (rVar 1)))) rNext)
    (rSeq (rSet 6 (rBin dMod (rOne dInt (rBin dAdd (rBin dAdd (rBin dMod (rOne dInt (rPeek 5)) (rC (.int 1000000787))) (rBin dMul (rC (.int 70223)) (rIxN 0 (rC (.int 3))))) (rC (.int 48317)))) (rC (.int 2147483171))))
    (rSeq (rSet 6 (rBin dMod (rOne dInt (rBin dAdd (rBin dAdd (rBin dMul (rVar 6) (rVar 6)) (rBin dMul (rC (.int 5100341)) (rIxN 0 (rC (.int 3))))) (rC (.int 48317)))) (rC (.int 2147483077))))
    (rRet (rBin dMod (rOne dInt (rBin dDiv (rBin dMod (rOne dInt (rBin dAdd (rBin dMul (rVar 6) (rVar 6)) (rBin dMul (rC (.int 977)) (rVar 6)))) (rC (.int 2147482951))) (rC (.int 64)))) (rVar 1)))))))))))
/- _law_pick: 0 _law_well_here, 1 _law_some -/
def R_Ulaw_pick (sp_Ulaw_dip : DSp) : RS := (rRet (rIxN 1 (rCall sp_Ulaw_dip (rCons (rVar 0) (rCons (rOne dLen (rPeek 1)) rNil)))))
/- _law_great: 0 _law_well_here, 1 _law_many, 2 _law_found, 3 _law_k -/
def R_Ulaw_great (sp_Ulaw_dip : DSp) : RS := (rSeq (rSet 2 (rC (.int 0)))
    (rSeq (rFor (rRng1 (rCons (rVar 1) rNil)) (gNm 3) (rSet 2 (rBin dAdd (rBin dMul (rVar 2) (rC (.int 1000003))) (rCall sp_Ulaw_dip (rCons (rVar 0) (rCons (rC (.int 1000003)) rNil))))))
    (rRet (rVar 2))))
/- _law_stack: 0 _law_well_here, 1 _law_way -/
def R_Ulaw_stack (sp_Ulaw_dip sp_Ulaw_great sp_Ulaw_pick : DSp) : RS := (rSeq (rSet 1 (rCall sp_Ulaw_dip (rCons (rVar 0) (rCons (rC (.int 7)) rNil))))
    (rSeq (rIfS (rB (rBin dLt (rVar 1) (rC (.int 2)))) (rRet (rVar 1)) rNext)
    (rRet (rIf (rB (rBin dLt (rVar 1) (rC (.int 4)))) (rCall sp_Ulaw_dip (rCons (rVar 0) (rCons (rC (.int 60)) rNil))) (rCall sp_Ulaw_great (rCons (rVar 0) (rCons (rCall sp_Ulaw_pick (rCons (rVar 0) (rCons (rFz (rLst (rCons (rC (.int 1)) (rCons (rC (.int 3)) (rCons (rC (.int 10)) (rCons (rC (.int 10)) rNil)))))) rNil))) rNil)))))))
/- _law_low: 0 _law_top, 1 _law_bottom, 2 _law_a, 3 _law_b -/
def R_Ulaw_low : RS := (rSeq (rPar 2 3 (rCons (rOne dAbs (rPeek 0)) (rCons (rVar 1) rNil)))
    (rSeq (rWhile (rB (rBin dGt (rVar 3) (rC (.int 0)))) (rPar 2 3 (rCons (rVar 3) (rCons (rBin dMod (rOne dInt (rPeek 2)) (rVar 3)) rNil))))
    (rRet (rTup (rCons (rBin dDiv (rVar 0) (rVar 2)) (rCons (rBin dDiv (rVar 1) (rVar 2)) rNil))))))
/- _law_counts: 0 _law_well_here, 1 _law_most, 2 _law_size, 3 _law_found, 4 _law_k -/
def R_Ulaw_counts (sp_Ulaw_pick sp_Ulaw_dip : DSp) : RS := (rSeq (rSet 2 (rCall sp_Ulaw_pick (rCons (rVar 0) (rCons (rFz (rLst (rCons (rC (.int 1)) (rCons (rC (.int 2)) (rCons (rC (.int 2)) (rCons (rC (.int 3)) (rCons (rC (.int 3)) (rCons (rC (.int 4)) (rCons (rC (.int 5)) (rCons (rC (.int 8)) rNil)))))))))) rNil))))
    (rSeq (rSetF 3 (rLc (rRng1 (rCons (rVar 2) rNil)) (gNm 4) rYes (rCall sp_Ulaw_dip (rCons (rVar 0) (rCons (rBin dAdd (rVar 1) (rC (.int 1))) rNil))) [4]))
    (rSeq (rIfS (rB (rBin dEq (rCall sp_Ulaw_dip (rCons (rVar 0) (rCons (rC (.int 4)) rNil))) (rC (.int 0)))) (rSetIx 3 (rC (.int 0)) (rCall sp_Ulaw_dip (rCons (rVar 0) (rCons (rVar 2) rNil)))) rNext)
    (rSeq (rIfS (rB (rBin dEq (rOne dSum (rPeek 3)) (rC (.int 0)))) (rSetIx 3 (rBin dAdd (rC (.int 1)) (rCall sp_Ulaw_dip (rCons (rVar 0) (rCons (rVar 1) rNil)))) (rCall sp_Ulaw_dip (rCons (rVar 0) (rCons (rVar 2) rNil)))) rNext)
    (rRet (rOne dTuple (rPeek 3)))))))
/- _law_row: 0 _law_well_here, 1 _law_many, 2 _law_tables, 3 _law_letters, 4 _law_k, 5 _law_table, 6 _law_x -/
def R_Ulaw_row (sp_Ulaw_pick sp_Ulaw_counts sp_Ulaw_dip : DSp) : RS := (rSeq (rSet 1 (rCall sp_Ulaw_pick (rCons (rVar 0) (rCons (rFz (rLst (rCons (rC (.int 0)) (rCons (rC (.int 1)) (rCons (rC (.int 1)) (rCons (rC (.int 2)) (rCons (rC (.int 2)) (rCons (rC (.int 3)) (rCons (rC (.int 4)) (rCons (rC (.int 5)) (rCons (rC (.int 6)) (rCons (rC (.int 7)) (rCons (rC (.int 9)) (rCons (rC (.int 12)) (rCons (rC (.int 20)) (rCons (rC (.int 40)) rNil)))))))))))))))) rNil))))
    (rSeq (rSetF 2 (rLc (rRng1 (rCons (rVar 1) rNil)) (gNm 4) rYes (rCall sp_Ulaw_counts (rCons (rVar 0) (rCons (rIf (rB (rBin dGt (rVar 1) (rC (.int 9)))) (rC (.int 3)) (rC (.int 9))) rNil))) [4]))
    (rSeq (rIfS (rAnd (rB (rBin dGt (rVar 1) (rC (.int 0)))) (rB (rBin dEq (rCall sp_Ulaw_dip (rCons (rVar 0) (rCons (rC (.int 5)) rNil))) (rC (.int 0))))) (rSetIx 2 (rCall sp_Ulaw_counts (rCons (rVar 0) (rCons (rC (.int 999)) rNil))) (rCall sp_Ulaw_dip (rCons (rVar 0) (rCons (rVar 1) rNil)))) rNext)
    (rSeq (rSetF 3 (rLc (rItems (rVar 2)) (gNm 5) rYes (rCall sp_Ulaw_pick (rCons (rVar 0) (rCons (rFz (rLc (rRng1 (rCons (rOne dLen (rPeek 5)) rNil)) (gNm 6) (rB (rBin dGt (rIxN 5 (rVar 6)) (rC (.int 0)))) (rVar 6) [6])) rNil))) [5]))
    (rRet (rTup (rCons (rOne dTuple (rPeek 2)) (rCons (rOne dTuple (rPeek 3)) rNil))))))))
/- _law_popped: 0 _law_stack_here, 1 _law_tables, 2 _law_letters, 3 _law_table, 4 _law_wide, 5 _law_turns, 6 _law_spot, 7 _law_x -/
def R_Ulaw_popped : RS := (rSeq (rSetF 2 (rLst rNil))
    (rSeq (rFor (rItems (rVar 1)) (gNm 3) (rSeq (rSet 4 (rOne dSum (rPeek 3)))
    (rSeq (rPar3 5 6 7 (rCons (rBin dDiv (rVar 0) (rVar 4)) (rCons (rBin dMod (rOne dInt (rPeek 0)) (rVar 4)) (rCons (rC (.int 0)) rNil))))
    (rSeq (rWhile (rB (rBin dGe (rVar 6) (rIxN 3 (rVar 7)))) (rSeq (rSet 6 (rBin dSub (rVar 6) (rIxN 3 (rVar 7))))
    (rSet 7 (rBin dAdd (rVar 7) (rC (.int 1))))))
    (rSeq (rApp 2 (rVar 7))
    (rSet 0 (rBin dAdd (rBin dMul (rIxN 3 (rVar 7)) (rVar 5)) (rVar 6))))))))
    (rRet (rTup (rCons (rOne dTuple (rPeek 2)) (rCons (rVar 0) rNil))))))
/- _law_lean: 0 _law_tables, 1 _law_letters, 2 _law_grown, 3 _law_low_here, 4 _law_high, 5 _law_under, 6 _law_k, 7 _law_table, 8 _law_x, 9 _law_wide, 10 _law_much, 11 _law_ahead, 12 _law_gaps, 13 _law_i -/
def R_Ulaw_lean : RS := (rSeq (rAsg (rTup (rCons (rC (.int 1)) (rCons (rC (.int 0)) (rCons (rC (.int 0)) (rCons (rC (.int 1)) rNil))))) (gTp 4 (gsCons (gNm 2) (gsCons (gNm 3) (gsCons (gNm 4) (gsCons (gNm 5) gsNil))))))
    (rSeq (rFor (rItems (rFz (rRevF (rFz (rLstRg (rOne dLen (rPeek 0))))))) (gNm 6) (rSeq (rPar 7 8 (rCons (rIxN 0 (rVar 6)) (rCons (rIxN 1 (rVar 6)) rNil)))
    (rSeq (rAsg (rTup (rCons (rOne dSum (rPeek 7)) (rCons (rIxN 7 (rVar 8)) (rCons (rOne dSum (rSlN 7 rONone (rOSome (rVar 8)))) rNil)))) (gTp 3 (gsCons (gNm 9) (gsCons (gNm 10) (gsCons (gNm 11) gsNil)))))
    (rSeq (rSetF 12 (rLc (rRng1 (rCons (rVar 10) rNil)) (gNm 13) rYes (rBin dSub (rBin dMul (rVar 10) (rBin dAdd (rVar 11) (rVar 13))) (rBin dMul (rVar 9) (rVar 13))) [13]))
    (rSeq (rSet 3 (rBin dAdd (rBin dMul (rVar 9) (rVar 3)) (rBin dMul (rOne dMin (rPeek 12)) (rVar 5))))
    (rSeq (rSet 4 (rBin dAdd (rBin dMul (rVar 9) (rVar 4)) (rBin dMul (rOne dMax (rPeek 12)) (rVar 5))))
    (rPar 2 5 (rCons (rBin dMul (rVar 2) (rVar 9)) (rCons (rBin dMul (rVar 5) (rVar 10)) rNil)))))))))
    (rRet (rTup (rCons (rVar 2) (rCons (rVar 3) (rCons (rVar 4) (rCons (rVar 5) rNil))))))))
/- _law_is_led: 0 _law_stack_here, 1 _law_pushed, 2 _law_four, 3 _law_lean_here, 4 _law_grown, 5 _law_low_here, 6 _law_high, 7 _law_under, 8 _law_least, 9 _law_most, 10 _law_some, 11 _law_back, 12 _law_after, 13 _law_due, 14 _law_told, 15 _law_pair -/
def R_Ulaw_is_led (sp_lean_holds sp_lean_back : DSp) : RS := (rSeq (rAsg (rVar 2) (gTp 4 (gsCons (gNm 4) (gsCons (gNm 5) (gsCons (gNm 6) (gsCons (gNm 7) gsNil))))))
    (rSeq (rSet 8 (rBin dSub (rC (.int 0)) (rBin dDiv (rBin dSub (rBin dSub (rC (.int 0)) (rBin dMul (rVar 4) (rVar 0))) (rVar 5)) (rVar 7))))
    (rSeq (rSet 9 (rBin dDiv (rBin dAdd (rBin dMul (rVar 4) (rVar 0)) (rVar 6)) (rVar 7)))
    (rSeq (rIfS (rOr (rNot (rB (rChn dLe dLe (rVar 8) (rVar 1) (rVar 9)))) (rB (rBin dNotB (rCall sp_lean_holds (rCons (rVar 3) (rCons (rVar 0) (rCons (rVar 1) rNil)))) (rC (.bl true))))) (rRet (rC (.bl false))) rNext)
    (rSeq (rSet 10 (rFz (rLst (rCons (rTup (rCons (rVar 8) (rCons (rC (.bl true)) rNil))) (rCons (rTup (rCons (rVar 9) (rCons (rC (.bl true)) rNil))) (rCons (rTup (rCons (rBin dSub (rVar 8) (rC (.int 1))) (rCons (rC (.bl false)) rNil))) (rCons (rTup (rCons (rBin dAdd (rVar 9) (rC (.int 1))) (rCons (rC (.bl false)) rNil))) rNil)))))))
    (rSeq (rSet 11 (rCall sp_lean_back (rCons (rVar 3) rNil)))
    (rSeq (rFor (rItems (rFz (rLc (rItems (rVar 10)) (gNm 15) (rB (rBin dGe (rIxN 15 (rC (.int 0))) (rC (.int 0)))) (rVar 15) [15]))) (gTp 2 (gsCons (gNm 12) (gsCons (gNm 13) gsNil))) (rSeq (rSet 14 (rFz (rLst (rCons (rCall sp_lean_holds (rCons (rVar 3) (rCons (rVar 0) (rCons (rVar 12) rNil)))) (rCons (rCallK sp_lean_holds 0 3 [2, 1, 0] rNil (rCons (rVar 0) (rCons (rVar 12) (rCons (rVar 11) rNil)))) rNil)))))
    (rIfS (rB (rBin dNe (rOne dRepr (rPeek 14)) (rOne dRepr (rFz (rLst (rCons (rVar 13) (rCons (rVar 13) rNil))))))) (rRet (rC (.bl false))) rNext)))
    (rRet (rC (.bl true))))))))))
/- _law_is_long: 0 _law_base, 1 _law_one, 2 _law_many, 3 _law_found, 4 _law_far -/
def R_Ulaw_is_long : RS := (rSeq (rPar 3 4 (rCons (rC (.int 0)) (rCons (rIxN 1 (rC (.int 1))) rNil)))
    (rSeq (rWhile (rB (rBin dLt (rVar 4) (rIxN 1 (rC (.int 0))))) (rPar 3 4 (rCons (rBin dAdd (rVar 3) (rC (.int 1))) (rCons (rBin dMul (rVar 0) (rVar 4)) rNil))))
    (rRet (rBin dEq (rOne dRepr (rPeek 2)) (rOne dRepr (rPeek 3))))))
/- _law_is_told: 0 _law_base, 1 _law_stack_here, 2 _law_pushed, 3 _law_lean_here, 4 _law_row_here, 5 _law_found, 6 _law_digit, 7 _law_whole, 8 _law_ends, 9 _law_edge, 10 _law_one, 11 _law_many, 12 _law_much, 13 _law_d -/
def R_Ulaw_is_told (sp_row_of sp_stack_of sp_reach_of sp_places_of sp_plus sp_times sp_Ulaw_is_long : DSp) : RS := (rSeq (rPar 4 5 (rCons (rCall sp_row_of (rCons (rVar 0) (rCons (rVar 2) rNil))) (rCons (rC (.int 0)) rNil)))
    (rSeq (rIfS (rOr (rNot (rTru (rIs "tuple" (rVar 4)))) (rB (rBin dNe (rFz (rLc (rItems (rVar 4)) (gNm 13) (rOr (rTru (rIs "bool" (rVar 13))) (rNot (rB (rChn dLe dLt (rC (.int 0)) (rVar 13) (rVar 0))))) (rVar 13) [13])) (rFz (rLst rNil))))) (rRet (rC (.bl false))) rNext)
    (rSeq (rFor (rItems (rVar 4)) (gNm 6) (rSet 5 (rBin dAdd (rBin dAdd (rBin dMul (rVar 0) (rVar 5)) (rVar 6)) (rC (.int 1)))))
    (rSeq (rIfS (rOr (rB (rBin dNe (rVar 5) (rVar 2))) (rB (rBin dNe (rCallK sp_stack_of 0 2 [1, 0] rNil (rCons (rVar 4) (rCons (rVar 0) rNil))) (rVar 2)))) (rRet (rC (.bl false))) rNext)
    (rSeq (rSet 7 (rBin dAdd (rBin dMul (rBin dSub (rVar 0) (rC (.int 1))) (rVar 2)) (rC (.int 1))))
    (rSeq (rIfS (rB (rBin dNe (rFz (rLst (rCons (rCall sp_places_of (rCons (rVar 0) (rCons (rVar 7) rNil))) (rCons (rCall sp_reach_of (rCons (rVar 0) (rCons (rTup (rCons (rBin dAdd (rVar 7) (rC (.int 1))) (rCons (rC (.int 1)) rNil))) rNil))) rNil)))) (rBin dMul (rFz (rLst (rCons (rBin dAdd (rOne dLen (rPeek 4)) (rC (.int 1))) rNil))) (rC (.int 2))))) (rRet (rC (.bl false))) rNext)
    (rSeq (rSetF 8 (rLst rNil))
    (rSeq (rFor (rItems (rSlN 3 (rOSome (rC (.int 1))) rONone)) (gNm 9) (rSeq (rSet 10 (rCall sp_plus (rCons (rCall sp_times (rCons (rIxN 3 (rC (.int 0))) (rCons (rTup (rCons (rVar 1) (rCons (rC (.int 1)) rNil))) rNil))) (rCons (rVar 9) rNil))))
    (rApp 8 (rCall sp_plus (rCons (rCall sp_times (rCons (rTup (rCons (rBin dSub (rVar 0) (rC (.int 1))) (rCons (rC (.int 1)) rNil))) (rCons (rVar 10) rNil))) (rCons (rTup (rCons (rC (.int 1)) (rCons (rC (.int 1)) rNil))) rNil))))))
    (rSeq (rSetF 11 (rLc (rItems (rVar 8)) (gNm 10) rYes (rIf (rB (rBin dGt (rIxN 10 (rC (.int 0))) (rC (.int 0)))) (rCall sp_reach_of (rCons (rVar 0) (rCons (rVar 10) rNil))) (rC (.int 0))) [10]))
    (rSeq (rFor (rZip (rCons (rVar 8) (rCons (rVar 11) rNil))) (gTp 2 (gsCons (gNm 10) (gsCons (gNm 12) gsNil))) (rIfS (rAnd (rB (rBin dGt (rIxN 10 (rC (.int 0))) (rC (.int 0)))) (rNot (rTru (rCall sp_Ulaw_is_long (rCons (rVar 0) (rCons (rVar 10) (rCons (rVar 12) rNil))))))) (rRet (rC (.bl false))) rNext))
    (rRet (rChn dLe dLe (rBin dSub (rIxN 11 (rC (.int 0))) (rC (.int 1))) (rOne dLen (rPeek 4)) (rIxN 11 (rC (.int 1)))))))))))))))
/- _law_is_fed: 0 _law_well_here, 1 _law_base, 2 _law_pushed, 3 _law_tables, 4 _law_more, 5 _law_cut, 6 _law_due, 7 _law_digit, 8 _law_late, 9 _law_back, 10 _law_k -/
def R_Ulaw_is_fed (sp_Ulaw_dip sp_added sp_pop_letters sp_taken sp_Ulaw_popped sp_push_letters : DSp) : RS := (rSeq (rSet 4 (rOne dTuple (rFz (rLc (rRng1 (rCons (rCall sp_Ulaw_dip (rCons (rVar 0) (rCons (rC (.int 7)) rNil))) rNil)) (gNm 10) rYes (rCall sp_Ulaw_dip (rCons (rVar 0) (rCons (rVar 1) rNil))) [10]))))
    (rSeq (rPar 5 6 (rCons (rCall sp_Ulaw_dip (rCons (rVar 0) (rCons (rBin dAdd (rOne dLen (rPeek 4)) (rC (.int 1))) rNil))) (rCons (rVar 2) rNil)))
    (rSeq (rFor (rItems (rVar 4)) (gNm 7) (rSet 6 (rBin dAdd (rBin dAdd (rBin dMul (rVar 1) (rVar 6)) (rVar 7)) (rC (.int 1)))))
    (rSeq (rSet 8 (rCall sp_added (rCons (rVar 1) (rCons (rCall sp_added (rCons (rVar 1) (rCons (rVar 2) (rCons (rSlN 4 rONone (rOSome (rVar 5))) rNil)))) (rCons (rSlN 4 (rOSome (rVar 5)) rONone) rNil)))))
    (rSeq (rIfS (rOr (rB (rBin dNe (rVar 8) (rVar 6))) (rB (rBin dNe (rCallK sp_added 0 3 [1, 2, 0] rNil (rCons (rVar 4) (rCons (rVar 1) (rCons (rVar 2) rNil)))) (rVar 6)))) (rRet (rC (.bl false))) rNext)
    (rSeq (rSet 9 (rCall sp_pop_letters (rCons (rVar 6) (rCons (rVar 3) rNil))))
    (rSeq (rIfS (rOr (rB (rBin dNe (rCall sp_taken (rCons (rVar 1) (rCons (rVar 6) (rCons (rOne dLen (rPeek 4)) rNil)))) (rTup (rCons (rVar 4) (rCons (rVar 2) rNil))))) (rB (rBin dNe (rOne dRepr (rPeek 9)) (rOne dRepr (rCall sp_Ulaw_popped (rCons (rVar 6) (rCons (rVar 3) rNil))))))) (rRet (rC (.bl false))) rNext)
    (rRet (rBin dEq (rCall sp_push_letters (rCons (rIxN 9 (rC (.int 1))) (rCons (rVar 3) (rCons (rIxN 9 (rC (.int 0))) rNil)))) (rVar 6))))))))))
/- law: 0 _law_script, 1 _law_well_here, 2 _law_tables, 3 _law_letters, 4 _law_stack_here, 5 _law_base, 6 _law_was, 7 _law_pushed, 8 _law_back, 9 _law_four, 10 _law_lean_here, 11 _law_chance, 12 _law_table, 13 _law_x, 14 _law_part -/
def R_law (sp_Ulaw_well sp_Ulaw_row sp_Ulaw_pick sp_Ulaw_stack sp_push_letters sp_Ulaw_popped sp_pop_letters sp_lean_of_row sp_Ulaw_lean sp_Ulaw_low sp_Ulaw_is_led sp_times sp_chance_of sp_Ulaw_is_told sp_Ulaw_is_fed : DSp) : RS := (rSeq (rSet 1 (rCall sp_Ulaw_well (rCons (rVar 0) rNil)))
    (rSeq (rAsg (rCall sp_Ulaw_row (rCons (rVar 1) rNil)) (gTp 2 (gsCons (gNm 2) (gsCons (gNm 3) gsNil))))
    (rSeq (rPar 4 5 (rCons (rCall sp_Ulaw_stack (rCons (rVar 1) rNil)) (rCons (rCall sp_Ulaw_pick (rCons (rVar 1) (rCons (rFz (rLst (rCons (rC (.int 2)) (rCons (rC (.int 2)) (rCons (rC (.int 3)) (rCons (rC (.int 5)) (rCons (rC (.int 10)) (rCons (rC (.int 16)) (rCons (rC (.int 255)) (rCons (rC (.int 256)) rNil)))))))))) rNil))) rNil)))
    (rSeq (rSet 6 (rOne dRepr (rFz (rLst (rCons (rVar 2) (rCons (rVar 3) (rCons (rVar 4) rNil)))))))
    (rSeq (rSet 7 (rCall sp_push_letters (rCons (rVar 4) (rCons (rVar 2) (rCons (rVar 3) rNil)))))
    (rSeq (rIfS (rOr (rTru (rIs "bool" (rVar 7))) (rOr (rNot (rTru (rIs "int" (rVar 7)))) (rB (rBin dLt (rVar 7) (rC (.int 0)))))) (rRet (rC (.bl false))) rNext)
    (rSeq (rIfS (rB (rBin dNe (rCall sp_Ulaw_popped (rCons (rVar 7) (rCons (rVar 2) rNil))) (rTup (rCons (rVar 3) (rCons (rVar 4) rNil))))) (rRet (rC (.bl false))) rNext)
    (rSeq (rIfS (rB (rBin dNe (rCallK sp_push_letters 0 3 [2, 1, 0] rNil (rCons (rVar 3) (rCons (rVar 2) (rCons (rVar 4) rNil)))) (rVar 7))) (rRet (rC (.bl false))) rNext)
    (rSeq (rSet 8 (rFz (rLst (rCons (rOne dRepr (rCall sp_pop_letters (rCons (rVar 7) (rCons (rVar 2) rNil)))) (rCons (rOne dRepr (rCallK sp_pop_letters 0 2 [1, 0] rNil (rCons (rVar 2) (rCons (rVar 7) rNil)))) rNil)))))
    (rSeq (rIfS (rB (rBin dNe (rVar 8) (rBin dMul (rFz (rLst (rCons (rOne dRepr (rTup (rCons (rVar 3) (rCons (rVar 4) rNil)))) rNil))) (rC (.int 2))))) (rRet (rC (.bl false))) rNext)
    (rSeq (rAsg (rTup (rCons (rCall sp_Ulaw_lean (rCons (rVar 2) (rCons (rVar 3) rNil))) (rCons (rCall sp_lean_of_row (rCons (rVar 2) (rCons (rVar 3) rNil))) rNil))) (gTp 2 (gsCons (gNm 9) (gsCons (gNm 10) gsNil))))
    (rSeq (rIfS (rB (rBin dNe (rOne dRepr (rPeek 10)) (rOne dRepr (rOne dTuple (rFz (rLc (rItems (rSlN 9 rONone (rOSome (rC (.int 3))))) (gNm 14) rYes (rCall sp_Ulaw_low (rCons (rVar 14) (rCons (rIxN 9 (rC (.int 3))) rNil))) [14])))))) (rRet (rC (.bl false))) rNext)
    (rSeq (rIfS (rB (rBin dNe (rOne dRepr (rCallK sp_lean_of_row 0 2 [1, 0] rNil (rCons (rVar 3) (rCons (rVar 2) rNil)))) (rOne dRepr (rPeek 10)))) (rRet (rC (.bl false))) rNext)
    (rSeq (rIfS (rNot (rTru (rCall sp_Ulaw_is_led (rCons (rVar 4) (rCons (rVar 7) (rCons (rVar 9) (rCons (rVar 10) rNil))))))) (rRet (rC (.bl false))) rNext)
    (rSeq (rSet 11 (rTup (rCons (rC (.int 1)) (rCons (rC (.int 1)) rNil))))
    (rSeq (rFor (rZip (rCons (rVar 2) (rCons (rVar 3) rNil))) (gTp 2 (gsCons (gNm 12) (gsCons (gNm 13) gsNil))) (rSet 11 (rCall sp_times (rCons (rVar 11) (rCons (rCall sp_chance_of (rCons (rVar 12) (rCons (rVar 13) rNil))) rNil)))))
    (rSeq (rIfS (rB (rBin dNe (rOne dRepr (rFz (rLst (rCons (rVar 11) (rCons (rCall sp_times (rCons (rVar 11) (rCons (rIxN 10 (rC (.int 0))) rNil))) rNil))))) (rOne dRepr (rFz (rLst (rCons (rCall sp_Ulaw_low (rCons (rIxN 9 (rC (.int 3))) (rCons (rIxN 9 (rC (.int 0))) rNil))) (rCons (rTup (rCons (rC (.int 1)) (rCons (rC (.int 1)) rNil))) rNil))))))) (rRet (rC (.bl false))) rNext)
    (rSeq (rIfS (rOr (rNot (rTru (rCall sp_Ulaw_is_told (rCons (rVar 5) (rCons (rVar 4) (rCons (rVar 7) (rCons (rVar 10) rNil))))))) (rNot (rTru (rCall sp_Ulaw_is_fed (rCons (rVar 1) (rCons (rVar 5) (rCons (rVar 7) (rCons (rVar 2) rNil)))))))) (rRet (rC (.bl false))) rNext)
    (rRet (rAndV (rBin dEq (rOne dRepr (rFz (rLst (rCons (rVar 2) (rCons (rVar 3) (rCons (rVar 4) rNil)))))) (rVar 6)) (rBin dEq (rOne dRepr (rCall sp_lean_of_row (rCons (rTup rNil) (rCons (rTup rNil) rNil)))) (rOne dRepr (rTup (rCons (rTup (rCons (rC (.int 1)) (rCons (rC (.int 1)) rNil))) (rCons (rTup (rCons (rC (.int 0)) (rCons (rC (.int 1)) rNil))) (rCons (rTup (rCons (rC (.int 0)) (rCons (rC (.int 1)) rNil))) rNil))))))))))))))))))))))))))
end DL

/-! part M1 -/
namespace DL
open PySem PySem.Spec PyProof.Rows L2
local macro_rules | `(tactic| walk_at "dd") => `(tactic| simp only [↓e_seq, ↓e_next, ↓e_never, ↓e_ifs, ↓e_ret, ↓e_retN, ↓e_drop, ↓e_brk, ↓e_ct, ↓e_set, ↓e_setF, ↓e_par, ↓e_par3, ↓e_aug, ↓e_asg, ↓e_gNm, ↓e_gTp, ↓e_gsNil, ↓e_gsCons, ↓e_app, ↓e_setIx, ↓e_retM, ↓e_for, ↓e_var, ↓e_VGv, ↓e_VGo, ↓e_peek, ↓e_PG, ↓pk_int, ↓pk_bl, ↓pk_non, ↓pk_str, ↓pk_lst, ↓pk_tup, ↓pk_scr, ↓pk_own, ↓e_AGo, ↓e_AGh, ↓e_HG, ↓e_JG, ↓e_C, ↓e_bin, ↓e_b, ↓e_BG, ↓e_IG, ↓e_chn, ↓e_and, ↓e_or, ↓e_not, ↓e_andV, ↓e_orV, ↓e_notV, ↓e_if, ↓e_tru, ↓tg_bl, ↓tg_int, ↓tg_non, ↓tg_lst, ↓tg_tup, ↓e_nil, ↓e_cons, ↓e_tup, ↓e_lst, ↓lg_0, ↓lg_1, ↓lg_2, ↓lg_3, ↓lg_4, ↓lg_5, ↓lg_6, ↓lg_7, ↓lg_8, ↓lg_9, ↓lg_10, ↓lg_11, ↓lg_12, ↓lg_13, ↓lg_14, ↓lg_15, ↓lg_16, ↓e_fz, ↓e_one, ↓e_oneF, ↓e_ixN, ↓e_neg, ↓e_is, ↓yg_int_int, ↓yg_int_bl, ↓yg_int_non, ↓yg_int_str, ↓yg_int_lst, ↓yg_int_tup, ↓yg_bool_int, ↓yg_bool_bl, ↓yg_bool_non, ↓yg_bool_str, ↓yg_bool_lst, ↓yg_bool_tup, ↓yg_tuple_int, ↓yg_tuple_bl, ↓yg_tuple_non, ↓yg_tuple_str, ↓yg_tuple_lst, ↓yg_tuple_tup, ↓yg_list_int, ↓yg_list_bl, ↓yg_list_non, ↓yg_list_str, ↓yg_list_lst, ↓yg_list_tup, ↓yg_str_int, ↓yg_str_bl, ↓yg_str_non, ↓yg_str_str, ↓yg_str_lst, ↓yg_str_tup, ↓e_call, ↓e_callK, ↓e_isN, ↓e_items, ↓sg_lst, ↓sg_tup, ↓sg_scr, ↓e_slN, ↓e_sl, ↓e_oNone, ↓e_oSome, ↓e_yes, ↓e_lc, ↓e_rng1, ↓e_RG1, ↓e_rng2, ↓e_RG2, ↓e_revRng, ↓e_zip, ↓zg_tup, ↓zg_lst, ↓e_revF, ↓e_lstRg, ↓o_add_i, ↓o_add_b, ↓o_add_t, ↓o_add_l, ↓o_sub, ↓o_mul, ↓o_mul_l, ↓o_div, ↓o_mod, ↓o_pow, ↓o_lt, ↓o_le, ↓o_gt, ↓o_ge, ↓o_eq_i, ↓o_ne_i, ↓o_ix_t, ↓o_ix_l, ↓o_ix_s, ↓o_len_t, ↓o_len_l, ↓o_len_s, ↓o_abs, ↓o_int_i, ↓o_int_b, ↓o_tuple, ↓o_list, ↓o_sum_t, ↓o_sum_l, ↓o_gcd, ↓o_divmod, ↓o_isB, ↓o_notB, ↓o_sl_t, ↓o_sl_l, ↓o_rev_l, ↓o_all, ↓o_any, ↓e_put, ↓pk_mset, ↓mset_s, ↓ix_1_0, ↓ix_2_0, ↓ix_2_1, ↓ix_3_0, ↓ix_3_1, ↓ix_3_2, ↓ix_4_0, ↓ix_4_1, ↓ix_4_2, ↓ix_4_3, ↓ix_5_0, ↓ix_5_1, ↓ix_5_2, ↓ix_5_3, ↓ix_5_4, ↓ix_6_0, ↓ix_6_1, ↓ix_6_2, ↓ix_6_3, ↓ix_6_4, ↓ix_6_5, ↓ix_7_0, ↓ix_7_1, ↓ix_7_2, ↓ix_7_3, ↓ix_7_4, ↓ix_7_5, ↓ix_7_6,
  List.length_cons, List.length_nil, List.map_cons, List.map_nil, List.cons_append, List.nil_append, List.append_nil, List.replicate_succ, List.replicate_zero, Nat.reduceSub, Nat.reduceAdd, Nat.reduceLeDiff, Nat.reduceEqDiff, wipeL, List.set_nil, List.set_cons_zero, List.set_cons_succ, List.getElem?_cons_zero, List.getElem?_cons_succ, List.filterMap_cons, List.filterMap_nil, startL, atI_c0, atI_c1, atI_c2, atI_c3, b2i, Option.some.injEq, D.int.injEq, D.bl.injEq, D.tup.injEq, D.lst.injEq, D.str.injEq, List.cons.injEq, and_true, true_and, and_assoc, ↓reduceIte, Bool.false_eq_true, Bool.not_true, Bool.not_false, if_true, if_false, decide_true, decide_false, Int.cast_ofNat_Int, Int.natCast_one, Int.natCast_zero, Int.reduceBEq, beq_self_eq_true, Int.reduceNeg, Int.reduceLT, Int.reduceLE, isNonB, noH, nT, Bool.true_and, Bool.false_and])

theorem sizeLine_big : 16777216 ≤ sizeLine := by decide
theorem lt_line {n : Nat} (h : n ≤ 1000000) : n < sizeLine := Nat.lt_of_lt_of_le (by omega) sizeLine_big
theorem le_line {n : Nat} (h : n ≤ 1000000) : n ≤ sizeLine := Nat.le_of_lt (lt_line h)
/-! ### whole numbers and their bits -/
def Lt (n : Nat) (x : Int) : Prop := x.natAbs < 2 ^ n
theorem Lt.up {a b : Nat} {x : Int} (h : Lt a x) (hab : a ≤ b := by decide) : Lt b x := Nat.lt_of_lt_of_le h (Nat.pow_le_pow_right (by decide) hab)
theorem Lt.mul {a b : Nat} {x y : Int} (h : Lt a x) (k : Lt b y) : Lt (a + b) (x * y) := by
  unfold Lt at *
  rw [Int.natAbs_mul, Nat.pow_add]
  exact Nat.mul_lt_mul'' h k
theorem Lt.add {a : Nat} {x y : Int} (h : Lt a x) (k : Lt a y) : Lt (a + 1) (x + y) := by
  unfold Lt at *
  have := Int.natAbs_add_le x y
  rw [Nat.pow_succ]
  omega
theorem Lt.neg {a : Nat} {x : Int} (h : Lt a x) : Lt a (-x) := by
  unfold Lt at *
  rw [Int.natAbs_neg]
  exact h
theorem Lt.sub {a : Nat} {x y : Int} (h : Lt a x) (k : Lt a y) : Lt (a + 1) (x - y) := by
  rw [Int.sub_eq_add_neg]
  exact h.add k.neg
theorem Lt.log {a : Nat} {x : Int} (h : Lt a x) (ha : 0 < a) : x.natAbs.log2 < a := by
  unfold Lt at h
  by_cases h0 : x.natAbs = 0
  · rw [h0]
    exact ha
  · exact (Nat.log2_lt h0).mpr h
theorem Lt.le {a : Nat} {x y : Int} (h : Lt a x) (k : y.natAbs ≤ x.natAbs) : Lt a y := Nat.lt_of_le_of_lt k h
theorem Lt.cm {a b : Nat} {x y : Int} (h : Lt a x) (k : Lt b y) (ha : 0 < a := by decide) (hb : 0 < b := by decide) (hab : a + b ≤ 1000000 := by decide) : CM x y := by
  refine .inr ?_
  have := h.log ha
  have := k.log hb
  unfold CMulW
  omega
theorem Lt.nat {a n : Nat} (h : n < 2 ^ a) : Lt a (n : Int) := h
theorem Lt.one : Lt 1 1 := by unfold Lt; decide
theorem Lt.zero {a : Nat} : Lt a 0 := Nat.two_pow_pos a
/-! ### quotients in lowest terms -/
def gI (a b : Int) : Int := ((Nat.gcd a.natAbs b.natAbs : Nat) : Int)
theorem gI_eq (a b : Int) : gI a b = (Int.gcd a b : Int) := rfl
theorem gI_pos {a b : Int} (hb : 0 < b) : 0 < gI a b := by
  unfold gI
  have : 0 < Nat.gcd a.natAbs b.natAbs := Nat.gcd_pos_of_pos_right _ (by omega)
  omega
def Q2 (a b : Int) : D := .tup [.int (a / gI a b), .int (b / gI a b)]
/-- a quotient's parts -/
theorem q2_parts {a b : Int} (hb : 0 < b) : ∃ x y g : Int, 0 < g ∧ a = g * x ∧ b = g * y ∧ Int.gcd x y = 1 ∧ 0 < y ∧ a / gI a b = x ∧ b / gI a b = y := by
  have hg := gI_pos (a := a) hb
  have h1 : gI a b ∣ a := Int.gcd_dvd_left a b
  have h2 : gI a b ∣ b := Int.gcd_dvd_right a b
  have e1 := Int.mul_ediv_cancel' h1
  have e2 := Int.mul_ediv_cancel' h2
  refine ⟨a / gI a b, b / gI a b, gI a b, hg, e1.symm, e2.symm, ?_, ?_, rfl, rfl⟩
  · have hne : 0 < Int.gcd a b := by have := gI_eq a b; omega
    have := Int.gcd_ediv_gcd_ediv_gcd hne
    exact this
  · exact Int.ediv_pos_of_pos_of_dvd hb (Int.le_of_lt hg) h2
theorem cop {x y w : Int} (h : Int.gcd x y = 1) (d : y ∣ x * w) : y ∣ w := by
  rw [← Int.natAbs_dvd_natAbs] at d ⊢
  rw [Int.natAbs_mul] at d
  exact Nat.Coprime.dvd_of_dvd_mul_left (m := x.natAbs) (by show Nat.gcd y.natAbs x.natAbs = 1; rw [Nat.gcd_comm]; exact h) d
theorem q2_eq {a b c d : Int} (hb : 0 < b) (hd : 0 < d) (h : a * d = c * b) : Q2 a b = Q2 c d := by
  obtain ⟨x, y, g, hg, ea, eb, hxy, hy, e1, e2⟩ := q2_parts (a := a) hb
  obtain ⟨z, w, k, hk, ec, ed, hzw, hw, e3, e4⟩ := q2_parts (a := c) hd
  unfold Q2
  rw [e1, e2, e3, e4]
  have h' : x * w = z * y := by
    have : (g * k) * (x * w) = (g * k) * (z * y) := by
      rw [ea, eb, ec, ed] at h
      grind
    have hgk : g * k ≠ 0 := Int.ne_of_gt (Int.mul_pos hg hk)
    exact Int.eq_of_mul_eq_mul_left hgk this
  have hyw : y = w := by
    have d1 : y ∣ w := by
      have : y ∣ x * w := ⟨z, by rw [h', Int.mul_comm]⟩
      exact cop hxy this
    have d2 : w ∣ y := by
      have : w ∣ z * y := ⟨x, by rw [← h', Int.mul_comm]⟩
      exact cop hzw this
    exact Int.dvd_antisymm (Int.le_of_lt hy) (Int.le_of_lt hw) d1 d2
  subst hyw
  have : x = z := Int.eq_of_mul_eq_mul_right (Int.ne_of_gt hy) h'
  rw [this]
theorem q2_red {x y : Int} (h : Int.gcd x y = 1) : Q2 x y = .tup [.int x, .int y] := by
  unfold Q2
  rw [gI_eq, h]
  show D.tup [.int (x / 1), .int (y / 1)] = _
  rw [Int.ediv_one, Int.ediv_one]
theorem q2_one (x : Int) : Q2 x 1 = .tup [.int x, .int 1] := q2_red (by rw [Int.gcd_one_right])
/-- a quotient with its parts at hand -/
theorem q2_cases {a b : Int} (hb : 0 < b) : ∃ x y g : Int, 0 < g ∧ a = g * x ∧ b = g * y ∧ Int.gcd x y = 1 ∧ 0 < y ∧ Q2 a b = .tup [.int x, .int y] := by
  obtain ⟨x, y, g, hg, ea, eb, hxy, hy, e1, e2⟩ := q2_parts (a := a) hb
  exact ⟨x, y, g, hg, ea, eb, hxy, hy, by unfold Q2; rw [e1, e2]⟩
theorem part_le {a x g : Int} (hg : 0 < g) (e : a = g * x) : x.natAbs ≤ a.natAbs := by
  rw [e, Int.natAbs_mul]
  exact Nat.le_mul_of_pos_left _ (by omega)
def sp_a_want : DSp
  | [.bl true, _], m, Q => Q .non m
  | _, _, _ => False
theorem ln_a_want : ∀ ds m Qd, sp_a_want ds m Qd → ds.length = 2 := by
  intro ds m Qd h
  unfold sp_a_want at h
  split at h
  · rfl
  · exact h.elim
theorem rd_a_want : ∀ ds m Qd, sp_a_want ds m Qd → R_a_want { nx := fun s => Qd .non s.m, rt := Qd } ⟨m, startL 2 ds⟩ := by
  intro ds m Qd h
  unfold sp_a_want at h
  split at h
  · unfold R_a_want
    walk_at "dd"
    exact h
  · exact h.elim
def sp_is_integer : DSp
  | [.int _], m, Q => Q (.bl true) m
  | _, _, _ => False
theorem ln_is_integer : ∀ ds m Qd, sp_is_integer ds m Qd → ds.length = 1 := by
  intro ds m Qd h
  unfold sp_is_integer at h
  split at h
  · rfl
  · exact h.elim
theorem rd_is_integer : ∀ ds m Qd, sp_is_integer ds m Qd → R_is_integer { nx := fun s => Qd .non s.m, rt := Qd } ⟨m, startL 1 ds⟩ := by
  intro ds m Qd h
  unfold sp_is_integer at h
  split at h
  · unfold R_is_integer
    walk_at "dd"
    exact h
  · exact h.elim
def sp_is_number : DSp
  | [.int i], m, Q => Q (.bl (decide (0 ≤ i))) m
  | _, _, _ => False
theorem ln_is_number : ∀ ds m Qd, sp_is_number ds m Qd → ds.length = 1 := by
  intro ds m Qd h
  unfold sp_is_number at h
  split at h
  · rfl
  · exact h.elim
theorem rd_is_number : ∀ ds m Qd, sp_is_number ds m Qd → R_is_number sp_is_integer { nx := fun s => Qd .non s.m, rt := Qd } ⟨m, startL 1 ds⟩ := by
  intro ds m Qd h
  unfold sp_is_number at h
  split at h
  · unfold R_is_number
    walk_at "dd"
    simp only [sp_is_integer]
    walk_at "dd"
    exact h
  · exact h.elim
def sp_is_base : DSp
  | [.int i], m, Q => (2 ≤ i ∧ i ≤ 256) ∧ Q (.bl true) m
  | _, _, _ => False
theorem ln_is_base : ∀ ds m Qd, sp_is_base ds m Qd → ds.length = 1 := by
  intro ds m Qd h
  unfold sp_is_base at h
  split at h
  · rfl
  · exact h.elim
theorem rd_is_base : ∀ ds m Qd, sp_is_base ds m Qd → R_is_base sp_is_integer { nx := fun s => Qd .non s.m, rt := Qd } ⟨m, startL 1 ds⟩ := by
  intro ds m Qd h
  unfold sp_is_base at h
  split at h
  · unfold R_is_base
    obtain ⟨⟨h1, h2⟩, h⟩ := h
    walk_at "dd"
    simp only [sp_is_integer]
    walk_at "dd"
    simp only [decide_eq_true h1, decide_eq_true h2]
    walk_at "dd"
    exact h
  · exact h.elim
def sp_is_quotient : DSp
  | [.tup [.int a, .int b]], m, Q => (1 ≤ b ∧ Int.gcd a b = 1) ∧ Q (.bl true) m
  | _, _, _ => False
theorem ln_is_quotient : ∀ ds m Qd, sp_is_quotient ds m Qd → ds.length = 1 := by
  intro ds m Qd h
  unfold sp_is_quotient at h
  split at h
  · rfl
  · exact h.elim
theorem rd_is_quotient : ∀ ds m Qd, sp_is_quotient ds m Qd → R_is_quotient sp_is_integer { nx := fun s => Qd .non s.m, rt := Qd } ⟨m, startL 3 ds⟩ := by
  intro ds m Qd h
  unfold sp_is_quotient at h
  split at h
  · unfold R_is_quotient
    rename_i b
    obtain ⟨⟨h1, h2⟩, h⟩ := h
    walk_at "dd"
    simp only [sp_is_integer]
    walk_at "dd"
    have : decide (b < 1) = false := decide_eq_false (by omega)
    simp only [this]
    rw [show Nat.gcd _ _ = 1 from h2]
    walk_at "dd"
    exact h
  · exact h.elim

end DL

/-! part M2 -/
namespace DL
open PySem PySem.Spec PyProof.Rows L2
local macro_rules | `(tactic| walk_at "dd") => `(tactic| simp only [↓e_seq, ↓e_next, ↓e_never, ↓e_ifs, ↓e_ret, ↓e_retN, ↓e_drop, ↓e_brk, ↓e_ct, ↓e_set, ↓e_setF, ↓e_par, ↓e_par3, ↓e_aug, ↓e_asg, ↓e_gNm, ↓e_gTp, ↓e_gsNil, ↓e_gsCons, ↓e_app, ↓e_setIx, ↓e_retM, ↓e_for, ↓e_var, ↓e_VGv, ↓e_VGo, ↓e_peek, ↓e_PG, ↓pk_int, ↓pk_bl, ↓pk_non, ↓pk_str, ↓pk_lst, ↓pk_tup, ↓pk_scr, ↓pk_own, ↓e_AGo, ↓e_AGh, ↓e_HG, ↓e_JG, ↓e_C, ↓e_bin, ↓e_b, ↓e_BG, ↓e_IG, ↓e_chn, ↓e_and, ↓e_or, ↓e_not, ↓e_andV, ↓e_orV, ↓e_notV, ↓e_if, ↓e_tru, ↓tg_bl, ↓tg_int, ↓tg_non, ↓tg_lst, ↓tg_tup, ↓e_nil, ↓e_cons, ↓e_tup, ↓e_lst, ↓lg_0, ↓lg_1, ↓lg_2, ↓lg_3, ↓lg_4, ↓lg_5, ↓lg_6, ↓lg_7, ↓lg_8, ↓lg_9, ↓lg_10, ↓lg_11, ↓lg_12, ↓lg_13, ↓lg_14, ↓lg_15, ↓lg_16, ↓e_fz, ↓e_one, ↓e_oneF, ↓e_ixN, ↓e_neg, ↓e_is, ↓yg_int_int, ↓yg_int_bl, ↓yg_int_non, ↓yg_int_str, ↓yg_int_lst, ↓yg_int_tup, ↓yg_bool_int, ↓yg_bool_bl, ↓yg_bool_non, ↓yg_bool_str, ↓yg_bool_lst, ↓yg_bool_tup, ↓yg_tuple_int, ↓yg_tuple_bl, ↓yg_tuple_non, ↓yg_tuple_str, ↓yg_tuple_lst, ↓yg_tuple_tup, ↓yg_list_int, ↓yg_list_bl, ↓yg_list_non, ↓yg_list_str, ↓yg_list_lst, ↓yg_list_tup, ↓yg_str_int, ↓yg_str_bl, ↓yg_str_non, ↓yg_str_str, ↓yg_str_lst, ↓yg_str_tup, ↓e_call, ↓e_callK, ↓e_isN, ↓e_items, ↓sg_lst, ↓sg_tup, ↓sg_scr, ↓e_slN, ↓e_sl, ↓e_oNone, ↓e_oSome, ↓e_yes, ↓e_lc, ↓e_rng1, ↓e_RG1, ↓e_rng2, ↓e_RG2, ↓e_revRng, ↓e_zip, ↓zg_tup, ↓zg_lst, ↓e_revF, ↓e_lstRg, ↓o_add_i, ↓o_add_b, ↓o_add_t, ↓o_add_l, ↓o_sub, ↓o_mul, ↓o_mul_l, ↓o_div, ↓o_mod, ↓o_pow, ↓o_lt, ↓o_le, ↓o_gt, ↓o_ge, ↓o_eq_i, ↓o_ne_i, ↓o_ix_t, ↓o_ix_l, ↓o_ix_s, ↓o_len_t, ↓o_len_l, ↓o_len_s, ↓o_abs, ↓o_int_i, ↓o_int_b, ↓o_tuple, ↓o_list, ↓o_sum_t, ↓o_sum_l, ↓o_gcd, ↓o_divmod, ↓o_isB, ↓o_notB, ↓o_sl_t, ↓o_sl_l, ↓o_rev_l, ↓o_all, ↓o_any, ↓e_put, ↓pk_mset, ↓mset_s, ↓ix_1_0, ↓ix_2_0, ↓ix_2_1, ↓ix_3_0, ↓ix_3_1, ↓ix_3_2, ↓ix_4_0, ↓ix_4_1, ↓ix_4_2, ↓ix_4_3, ↓ix_5_0, ↓ix_5_1, ↓ix_5_2, ↓ix_5_3, ↓ix_5_4, ↓ix_6_0, ↓ix_6_1, ↓ix_6_2, ↓ix_6_3, ↓ix_6_4, ↓ix_6_5, ↓ix_7_0, ↓ix_7_1, ↓ix_7_2, ↓ix_7_3, ↓ix_7_4, ↓ix_7_5, ↓ix_7_6,
  List.length_cons, List.length_nil, List.map_cons, List.map_nil, List.cons_append, List.nil_append, List.append_nil, List.replicate_succ, List.replicate_zero, Nat.reduceSub, Nat.reduceAdd, Nat.reduceLeDiff, Nat.reduceEqDiff, wipeL, List.set_nil, List.set_cons_zero, List.set_cons_succ, List.getElem?_cons_zero, List.getElem?_cons_succ, List.filterMap_cons, List.filterMap_nil, startL, atI_c0, atI_c1, atI_c2, atI_c3, b2i, Option.some.injEq, D.int.injEq, D.bl.injEq, D.tup.injEq, D.lst.injEq, D.str.injEq, List.cons.injEq, and_true, true_and, and_assoc, ↓reduceIte, Bool.false_eq_true, Bool.not_true, Bool.not_false, if_true, if_false, decide_true, decide_false, Int.cast_ofNat_Int, Int.natCast_one, Int.natCast_zero, Int.reduceBEq, beq_self_eq_true, Int.reduceNeg, Int.reduceLT, Int.reduceLE, isNonB, noH, nT, Bool.true_and, Bool.false_and])

theorem pos_of_mul {k z : Int} (hk : 0 < k) (h : 0 < k * z) : 0 < z := by
  rcases Int.lt_or_le 0 z with h1 | h1
  · exact h1
  · have := Int.mul_le_mul_of_nonneg_left h1 (Int.le_of_lt hk)
    omega
/-! ### rows of whole numbers -/
theorem nL_map (ns : List Nat) (f : Nat → D) : (List.range ns.length).map (fun i => f (ns.getD i 0)) = ns.map f := by
  apply List.ext_getElem
  · simp
  · intro i h1 h2
    simp at h1
    simp [List.getD, h1]
theorem nL_at {ns : List Nat} {i : Nat} {d : D} (h : (nL ns)[i]? = some d) : i < ns.length ∧ d = .int ((ns.getD i 0 : Nat) : Int) := by
  rw [nL_get] at h
  cases e : ns[i]? with
  | none => rw [e] at h; cases h
  | some n =>
    rw [e] at h
    cases h
    have hi := (List.getElem?_eq_some_iff.mp e).1
    refine ⟨hi, ?_⟩
    unfold List.getD
    rw [e]
    rfl
theorem all_bl (bs : List Bool) : (∃ cs : List Bool, bs.map D.bl = cs.map D.bl ∧ cs = bs) := ⟨bs, rfl, rfl⟩
def sp_a_is_numbers : DSp
  | [.tup ds], m, Q => ∃ ns : List Nat, ds = nL ns ∧ ns.length ≤ 1000000 ∧ Q (.bl true) m
  | _, _, _ => False
theorem ln_a_is_numbers : ∀ ds m Qd, sp_a_is_numbers ds m Qd → ds.length = 1 := by
  intro ds m Qd h
  unfold sp_a_is_numbers at h
  split at h
  · rfl
  · exact h.elim
theorem rd_a_is_numbers : ∀ ds m Qd, sp_a_is_numbers ds m Qd → R_a_is_numbers sp_is_number { nx := fun s => Qd .non s.m, rt := Qd } ⟨m, startL 2 ds⟩ := by
  intro ds m Qd h
  unfold sp_a_is_numbers at h
  split at h
  · unfold R_a_is_numbers
    obtain ⟨ns, rfl, hl, h⟩ := h
    walk_at "dd"
    refine lc_map (fun _ => .bl true) rfl (by rw [nL_len]; exact hl) (fun i d hd Q' hq => ?_) ?_
    · obtain ⟨hi, rfl⟩ := nL_at hd
      walk_at "dd"
      simp only [sp_is_number]
      rw [decide_eq_true (Int.natCast_nonneg _)]
      exact hq _ rfl rfl
    · refine ⟨List.replicate ns.length true, by rw [nL_len, List.map_replicate]; simp [List.map_const'], ?_⟩
      rw [show (List.replicate ns.length true).all (fun b => b) = true by simp]
      exact h
  · exact h.elim
def sp_is_digits : DSp
  | [.int b, .tup ds], m, Q => ∃ ns : List Nat, ds = nL ns ∧ (2 ≤ b ∧ b ≤ 256) ∧ ns.length ≤ 1000000 ∧ (∀ n ∈ ns, (n : Int) < b) ∧ Q (.bl true) m
  | _, _, _ => False
theorem ln_is_digits : ∀ ds m Qd, sp_is_digits ds m Qd → ds.length = 2 := by
  intro ds m Qd h
  unfold sp_is_digits at h
  split at h
  · rfl
  · exact h.elim
theorem rd_is_digits : ∀ ds m Qd, sp_is_digits ds m Qd → R_is_digits sp_a_want sp_is_base sp_a_is_numbers { nx := fun s => Qd .non s.m, rt := Qd } ⟨m, startL 3 ds⟩ := by
  intro ds m Qd h
  unfold sp_is_digits at h
  split at h
  · unfold R_is_digits
    obtain ⟨ns, rfl, hb, hl, hd, h⟩ := h
    rename_i b
    walk_at "dd"
    simp only [sp_is_base, sp_a_want, sp_a_is_numbers]
    refine ⟨hb, ns, rfl, hl, ?_⟩
    walk_at "dd"
    refine lc_map (fun _ => .bl true) rfl (by rw [nL_len]; exact hl) (fun i d hd' Q' hq => ?_) ?_
    · obtain ⟨hi, rfl⟩ := nL_at hd'
      walk_at "dd"
      rw [decide_eq_true (hd _ (by unfold List.getD; rw [List.getElem?_eq_getElem hi]; simp))]
      exact hq _ rfl rfl
    · refine ⟨List.replicate ns.length true, by rw [nL_len, List.map_replicate]; simp [List.map_const'], ?_⟩
      rw [show (List.replicate ns.length true).all (fun b => b) = true by simp]
      exact h
  · exact h.elim
def sp_a_lowest : DSp
  | [.int t, .int b], m, Q => (0 < b ∧ Lt 8900 b) ∧ Q (Q2 t b) m
  | _, _, _ => False
theorem ln_a_lowest : ∀ ds m Qd, sp_a_lowest ds m Qd → ds.length = 2 := by
  intro ds m Qd h
  unfold sp_a_lowest at h
  split at h
  · rfl
  · exact h.elim
theorem rd_a_lowest : ∀ ds m Qd, sp_a_lowest ds m Qd → R_a_lowest { nx := fun s => Qd .non s.m, rt := Qd } ⟨m, startL 3 ds⟩ := by
  intro ds m Qd h
  unfold sp_a_lowest at h
  split at h
  · unfold R_a_lowest
    rename_i t b
    obtain ⟨⟨hb, hl⟩, h⟩ := h
    walk_at "dd"
    have h0 : decide (b < 0) = false := decide_eq_false (by omega)
    simp only [h0]
    walk_at "dd"
    have hg := gI_pos (a := t) hb
    have hc : CDivZ (gI t b) := ⟨by omega, by
      have : (gI t b).natAbs ≤ b.natAbs := by
        have := Int.le_of_dvd hb (Int.gcd_dvd_right t b)
        have := gI_eq t b
        omega
      have := (hl.le this).log (by decide)
      omega⟩
    refine ⟨hc, hc, ?_⟩
    show Qd (.tup [.int (t.fdiv (gI t b)), .int (b.fdiv (gI t b))]) m
    rw [Int.fdiv_eq_ediv_of_nonneg _ (Int.le_of_lt hg), Int.fdiv_eq_ediv_of_nonneg _ (Int.le_of_lt hg)]
    exact h
  · exact h.elim
def sp_Uwant_both : DSp := fun ds m Q => ∃ a b c d, ds = [Q2 a b, Q2 c d] ∧ (0 < b ∧ 0 < d) ∧ Q .non m
theorem ln_Uwant_both : ∀ ds m Qd, sp_Uwant_both ds m Qd → ds.length = 2 := by
  rintro ds m Qd ⟨a, b, c, d, rfl, _⟩
  rfl
theorem rd_Uwant_both : ∀ ds m Qd, sp_Uwant_both ds m Qd → R_Uwant_both sp_a_want sp_is_quotient { nx := fun s => Qd .non s.m, rt := Qd } ⟨m, startL 2 ds⟩ := by
  rintro ds m Qd ⟨a, b, c, d, rfl, ⟨hb, hd⟩, h⟩
  unfold R_Uwant_both
  obtain ⟨x, y, g, hg, ea, eb, hxy, hy, e1⟩ := q2_cases (a := a) hb
  obtain ⟨z, w, k, hk, ec, ed, hzw, hw, e2⟩ := q2_cases (a := c) hd
  rw [e1, e2]
  walk_at "dd"
  simp only [sp_is_quotient]
  simp only [sp_a_want]
  exact ⟨⟨hy, hxy⟩, ⟨hw, hzw⟩, h⟩
def sp_plus : DSp := fun ds m Q => ∃ a b c d, ds = [Q2 a b, Q2 c d] ∧ (0 < b ∧ 0 < d) ∧ (Lt 4000 a ∧ Lt 4000 b) ∧ (Lt 4000 c ∧ Lt 4000 d) ∧ Q (Q2 (a * d + c * b) (b * d)) m
theorem ln_plus : ∀ ds m Qd, sp_plus ds m Qd → ds.length = 2 := by
  rintro ds m Qd ⟨a, b, c, d, rfl, _⟩
  rfl
theorem rd_plus : ∀ ds m Qd, sp_plus ds m Qd → R_plus sp_Uwant_both sp_a_lowest { nx := fun s => Qd .non s.m, rt := Qd } ⟨m, startL 2 ds⟩ := by
  rintro ds m Qd ⟨a, b, c, d, rfl, ⟨hb, hd⟩, ⟨la, lb⟩, ⟨lc, ld⟩, h⟩
  unfold R_plus
  obtain ⟨x, y, g, hg, ea, eb, hxy, hy, e1⟩ := q2_cases (a := a) hb
  obtain ⟨z, w, k, hk, ec, ed, hzw, hw, e2⟩ := q2_cases (a := c) hd
  have lx := la.le (part_le hg ea)
  have ly := lb.le (part_le hg eb)
  have lz := lc.le (part_le hk ec)
  have lw := ld.le (part_le hk ed)
  walk_at "dd"
  refine ⟨a, b, c, d, rfl, ⟨hb, hd⟩, ?_⟩
  rw [e1, e2]
  walk_at "dd"
  simp only [sp_a_lowest]
  refine ⟨lx.cm lw, lz.cm ly, ly.cm lw, ⟨Int.mul_pos hy hw, (ly.mul lw).up⟩, ?_⟩
  rw [q2_eq (Int.mul_pos hy hw) (Int.mul_pos hb hd) (show _ = (a * d + c * b) * (y * w) by rw [ea, eb, ec, ed]; grind)]
  exact h
def sp_minus : DSp := fun ds m Q => ∃ a b c d, ds = [Q2 a b, Q2 c d] ∧ (0 < b ∧ 0 < d) ∧ (Lt 4000 a ∧ Lt 4000 b) ∧ (Lt 4000 c ∧ Lt 4000 d) ∧ Q (Q2 (a * d - c * b) (b * d)) m
theorem ln_minus : ∀ ds m Qd, sp_minus ds m Qd → ds.length = 2 := by
  rintro ds m Qd ⟨a, b, c, d, rfl, _⟩
  rfl
theorem rd_minus : ∀ ds m Qd, sp_minus ds m Qd → R_minus sp_Uwant_both sp_a_lowest { nx := fun s => Qd .non s.m, rt := Qd } ⟨m, startL 2 ds⟩ := by
  rintro ds m Qd ⟨a, b, c, d, rfl, ⟨hb, hd⟩, ⟨la, lb⟩, ⟨lc, ld⟩, h⟩
  unfold R_minus
  obtain ⟨x, y, g, hg, ea, eb, hxy, hy, e1⟩ := q2_cases (a := a) hb
  obtain ⟨z, w, k, hk, ec, ed, hzw, hw, e2⟩ := q2_cases (a := c) hd
  have lx := la.le (part_le hg ea)
  have ly := lb.le (part_le hg eb)
  have lz := lc.le (part_le hk ec)
  have lw := ld.le (part_le hk ed)
  walk_at "dd"
  refine ⟨a, b, c, d, rfl, ⟨hb, hd⟩, ?_⟩
  rw [e1, e2]
  walk_at "dd"
  simp only [sp_a_lowest]
  refine ⟨lx.cm lw, lz.cm ly, ly.cm lw, ⟨Int.mul_pos hy hw, (ly.mul lw).up⟩, ?_⟩
  rw [q2_eq (Int.mul_pos hy hw) (Int.mul_pos hb hd) (show _ = (a * d - c * b) * (y * w) by rw [ea, eb, ec, ed]; grind)]
  exact h
def sp_times : DSp := fun ds m Q => ∃ a b c d, ds = [Q2 a b, Q2 c d] ∧ (0 < b ∧ 0 < d) ∧ (Lt 4000 a ∧ Lt 4000 b) ∧ (Lt 4000 c ∧ Lt 4000 d) ∧ Q (Q2 (a * c) (b * d)) m
theorem ln_times : ∀ ds m Qd, sp_times ds m Qd → ds.length = 2 := by
  rintro ds m Qd ⟨a, b, c, d, rfl, _⟩
  rfl
theorem rd_times : ∀ ds m Qd, sp_times ds m Qd → R_times sp_Uwant_both sp_a_lowest { nx := fun s => Qd .non s.m, rt := Qd } ⟨m, startL 2 ds⟩ := by
  rintro ds m Qd ⟨a, b, c, d, rfl, ⟨hb, hd⟩, ⟨la, lb⟩, ⟨lc, ld⟩, h⟩
  unfold R_times
  obtain ⟨x, y, g, hg, ea, eb, hxy, hy, e1⟩ := q2_cases (a := a) hb
  obtain ⟨z, w, k, hk, ec, ed, hzw, hw, e2⟩ := q2_cases (a := c) hd
  have lx := la.le (part_le hg ea)
  have ly := lb.le (part_le hg eb)
  have lz := lc.le (part_le hk ec)
  have lw := ld.le (part_le hk ed)
  walk_at "dd"
  refine ⟨a, b, c, d, rfl, ⟨hb, hd⟩, ?_⟩
  rw [e1, e2]
  walk_at "dd"
  simp only [sp_a_lowest]
  refine ⟨lx.cm lz, ly.cm lw, ⟨Int.mul_pos hy hw, (ly.mul lw).up⟩, ?_⟩
  rw [q2_eq (Int.mul_pos hy hw) (Int.mul_pos hb hd) (show _ = (a * c) * (y * w) by rw [ea, eb, ec, ed]; grind)]
  exact h
def sp_over : DSp := fun ds m Q => ∃ a b c d, ds = [Q2 a b, Q2 c d] ∧ (0 < b ∧ 0 < d) ∧ (Lt 4000 a ∧ Lt 4000 b) ∧ (Lt 4000 c ∧ Lt 4000 d) ∧ 0 < c ∧ Q (Q2 (a * d) (b * c)) m
theorem ln_over : ∀ ds m Qd, sp_over ds m Qd → ds.length = 2 := by
  rintro ds m Qd ⟨a, b, c, d, rfl, _⟩
  rfl
theorem rd_over : ∀ ds m Qd, sp_over ds m Qd → R_over sp_Uwant_both sp_a_want sp_a_lowest { nx := fun s => Qd .non s.m, rt := Qd } ⟨m, startL 2 ds⟩ := by
  rintro ds m Qd ⟨a, b, c, d, rfl, ⟨hb, hd⟩, ⟨la, lb⟩, ⟨lc, ld⟩, hc, h⟩
  unfold R_over
  obtain ⟨x, y, g, hg, ea, eb, hxy, hy, e1⟩ := q2_cases (a := a) hb
  obtain ⟨z, w, k, hk, ec, ed, hzw, hw, e2⟩ := q2_cases (a := c) hd
  have lx := la.le (part_le hg ea)
  have ly := lb.le (part_le hg eb)
  have lz := lc.le (part_le hk ec)
  have lw := ld.le (part_le hk ed)
  walk_at "dd"
  refine ⟨a, b, c, d, rfl, ⟨hb, hd⟩, ?_⟩
  rw [e1, e2]
  walk_at "dd"
  have hz : 0 < z := by
    rw [ec] at hc
    exact pos_of_mul hk hc
  have : (z == 0) = false := beq_false_of_ne (by omega)
  simp only [this]
  walk_at "dd"
  simp only [sp_a_want, sp_a_lowest]
  refine ⟨lx.cm lw, ly.cm lz, ⟨Int.mul_pos hy hz, (ly.mul lz).up⟩, ?_⟩
  rw [q2_eq (Int.mul_pos hy hz) (Int.mul_pos hb hc) (show _ = (a * d) * (y * z) by rw [ea, eb, ec, ed]; grind)]
  exact h
def cmpI (a b : Int) : Int := if a < b then -1 else if b < a then 1 else 0
def sp_compare : DSp := fun ds m Q => ∃ a b c d, ds = [Q2 a b, Q2 c d] ∧ (0 < b ∧ 0 < d) ∧ (Lt 4000 a ∧ Lt 4000 b) ∧ (Lt 4000 c ∧ Lt 4000 d) ∧ Q (.int (cmpI (a * d) (c * b))) m
theorem ln_compare : ∀ ds m Qd, sp_compare ds m Qd → ds.length = 2 := by
  rintro ds m Qd ⟨a, b, c, d, rfl, _⟩
  rfl
theorem rd_compare : ∀ ds m Qd, sp_compare ds m Qd → R_compare sp_Uwant_both { nx := fun s => Qd .non s.m, rt := Qd } ⟨m, startL 4 ds⟩ := by
  rintro ds m Qd ⟨a, b, c, d, rfl, ⟨hb, hd⟩, ⟨la, lb⟩, ⟨lc, ld⟩, h⟩
  unfold R_compare
  obtain ⟨x, y, g, hg, ea, eb, hxy, hy, e1⟩ := q2_cases (a := a) hb
  obtain ⟨z, w, k, hk, ec, ed, hzw, hw, e2⟩ := q2_cases (a := c) hd
  have lx := la.le (part_le hg ea)
  have ly := lb.le (part_le hg eb)
  have lz := lc.le (part_le hk ec)
  have lw := ld.le (part_le hk ed)
  walk_at "dd"
  refine ⟨a, b, c, d, rfl, ⟨hb, hd⟩, ?_⟩
  rw [e1, e2]
  walk_at "dd"
  refine ⟨lx.cm lw, lz.cm ly, ?_⟩
  have e : cmpI (x * w) (z * y) = cmpI (a * d) (c * b) := by
    have e3 : a * d = (g * k) * (x * w) := by rw [ea, ed]; grind
    have e4 : c * b = (g * k) * (z * y) := by rw [ec, eb]; grind
    have hgk : 0 < g * k := Int.mul_pos hg hk
    unfold cmpI
    rw [e3, e4]
    have p1 : (g * k) * (x * w) < (g * k) * (z * y) ↔ x * w < z * y := Int.mul_lt_mul_left hgk
    have p2 : (g * k) * (z * y) < (g * k) * (x * w) ↔ z * y < x * w := Int.mul_lt_mul_left hgk
    simp only [p1, p2]
  rw [← e] at h
  unfold cmpI at h
  by_cases h1 : x * w < z * y
  · rw [if_pos h1] at h
    rw [decide_eq_true h1]
    walk_at "dd"
    exact h
  · rw [if_neg h1] at h
    rw [decide_eq_false h1]
    walk_at "dd"
    by_cases h2 : z * y < x * w
    · rw [if_pos h2] at h
      rw [decide_eq_true h2]
      walk_at "dd"
      exact h
    · rw [if_neg h2] at h
      rw [decide_eq_false h2]
      walk_at "dd"
      exact h

end DL

/-! part M3 -/
namespace DL
open PySem PySem.Spec PyProof.Rows L2
local macro_rules | `(tactic| walk_at "dd") => `(tactic| simp only [↓e_seq, ↓e_next, ↓e_never, ↓e_ifs, ↓e_ret, ↓e_retN, ↓e_drop, ↓e_brk, ↓e_ct, ↓e_set, ↓e_setF, ↓e_par, ↓e_par3, ↓e_aug, ↓e_asg, ↓e_gNm, ↓e_gTp, ↓e_gsNil, ↓e_gsCons, ↓e_app, ↓e_setIx, ↓e_retM, ↓e_for, ↓e_var, ↓e_VGv, ↓e_VGo, ↓e_peek, ↓e_PG, ↓pk_int, ↓pk_bl, ↓pk_non, ↓pk_str, ↓pk_lst, ↓pk_tup, ↓pk_scr, ↓pk_own, ↓e_AGo, ↓e_AGh, ↓e_HG, ↓e_JG, ↓e_C, ↓e_bin, ↓e_b, ↓e_BG, ↓e_IG, ↓e_chn, ↓e_and, ↓e_or, ↓e_not, ↓e_andV, ↓e_orV, ↓e_notV, ↓e_if, ↓e_tru, ↓tg_bl, ↓tg_int, ↓tg_non, ↓tg_lst, ↓tg_tup, ↓e_nil, ↓e_cons, ↓e_tup, ↓e_lst, ↓lg_0, ↓lg_1, ↓lg_2, ↓lg_3, ↓lg_4, ↓lg_5, ↓lg_6, ↓lg_7, ↓lg_8, ↓lg_9, ↓lg_10, ↓lg_11, ↓lg_12, ↓lg_13, ↓lg_14, ↓lg_15, ↓lg_16, ↓e_fz, ↓e_one, ↓e_oneF, ↓e_ixN, ↓e_neg, ↓e_is, ↓yg_int_int, ↓yg_int_bl, ↓yg_int_non, ↓yg_int_str, ↓yg_int_lst, ↓yg_int_tup, ↓yg_bool_int, ↓yg_bool_bl, ↓yg_bool_non, ↓yg_bool_str, ↓yg_bool_lst, ↓yg_bool_tup, ↓yg_tuple_int, ↓yg_tuple_bl, ↓yg_tuple_non, ↓yg_tuple_str, ↓yg_tuple_lst, ↓yg_tuple_tup, ↓yg_list_int, ↓yg_list_bl, ↓yg_list_non, ↓yg_list_str, ↓yg_list_lst, ↓yg_list_tup, ↓yg_str_int, ↓yg_str_bl, ↓yg_str_non, ↓yg_str_str, ↓yg_str_lst, ↓yg_str_tup, ↓e_call, ↓e_callK, ↓e_isN, ↓e_items, ↓sg_lst, ↓sg_tup, ↓sg_scr, ↓e_slN, ↓e_sl, ↓e_oNone, ↓e_oSome, ↓e_yes, ↓e_lc, ↓e_rng1, ↓e_RG1, ↓e_rng2, ↓e_RG2, ↓e_revRng, ↓e_zip, ↓zg_tup, ↓zg_lst, ↓e_revF, ↓e_lstRg, ↓o_add_i, ↓o_add_b, ↓o_add_t, ↓o_add_l, ↓o_sub, ↓o_mul, ↓o_mul_l, ↓o_div, ↓o_mod, ↓o_pow, ↓o_lt, ↓o_le, ↓o_gt, ↓o_ge, ↓o_eq_i, ↓o_ne_i, ↓o_ix_t, ↓o_ix_l, ↓o_ix_s, ↓o_len_t, ↓o_len_l, ↓o_len_s, ↓o_abs, ↓o_int_i, ↓o_int_b, ↓o_tuple, ↓o_list, ↓o_sum_t, ↓o_sum_l, ↓o_gcd, ↓o_divmod, ↓o_isB, ↓o_notB, ↓o_sl_t, ↓o_sl_l, ↓o_rev_l, ↓o_all, ↓o_any, ↓e_put, ↓pk_mset, ↓mset_s, ↓ix_1_0, ↓ix_2_0, ↓ix_2_1, ↓ix_3_0, ↓ix_3_1, ↓ix_3_2, ↓ix_4_0, ↓ix_4_1, ↓ix_4_2, ↓ix_4_3, ↓ix_5_0, ↓ix_5_1, ↓ix_5_2, ↓ix_5_3, ↓ix_5_4, ↓ix_6_0, ↓ix_6_1, ↓ix_6_2, ↓ix_6_3, ↓ix_6_4, ↓ix_6_5, ↓ix_7_0, ↓ix_7_1, ↓ix_7_2, ↓ix_7_3, ↓ix_7_4, ↓ix_7_5, ↓ix_7_6,
  List.length_cons, List.length_nil, List.map_cons, List.map_nil, List.cons_append, List.nil_append, List.append_nil, List.replicate_succ, List.replicate_zero, Nat.reduceSub, Nat.reduceAdd, Nat.reduceLeDiff, Nat.reduceEqDiff, wipeL, List.set_nil, List.set_cons_zero, List.set_cons_succ, List.getElem?_cons_zero, List.getElem?_cons_succ, List.filterMap_cons, List.filterMap_nil, startL, atI_c0, atI_c1, atI_c2, atI_c3, b2i, Option.some.injEq, D.int.injEq, D.bl.injEq, D.tup.injEq, D.lst.injEq, D.str.injEq, List.cons.injEq, and_true, true_and, and_assoc, ↓reduceIte, Bool.false_eq_true, Bool.not_true, Bool.not_false, if_true, if_false, decide_true, decide_false, Int.cast_ofNat_Int, Int.natCast_one, Int.natCast_zero, Int.reduceBEq, beq_self_eq_true, Int.reduceNeg, Int.reduceLT, Int.reduceLE, isNonB, noH, nT, Bool.true_and, Bool.false_and])

/-! ### tables -/
theorem nL_ints (ns : List Nat) : nL ns = (ns.map fun n : Nat => (n : Int)).map D.int := by
  unfold nL
  rw [List.map_map]
  rfl
theorem sum_cast (ns : List Nat) : (ns.map fun n : Nat => (n : Int)).sum = ((ns.sum : Nat) : Int) := by
  induction ns with
  | nil => rfl
  | cons n ns ih => rw [List.map_cons, List.sum_cons, List.sum_cons, ih, Int.natCast_add]
theorem sum_nL {ns : List Nat} {Q : Int → Prop} (h : Q ((ns.sum : Nat) : Int)) : ∃ ms : List Int, nL ns = ms.map D.int ∧ Q ms.sum := ⟨_, nL_ints ns, by rw [sum_cast]; exact h⟩
theorem at_nL {ns : List Nat} {k : Nat} (h : k < ns.length) : atI (nL ns) (k : Int) = some (.int ((ns.getD k 0 : Nat) : Int)) := by
  refine atI_nat ?_
  rw [nL_get, List.getElem?_eq_getElem h]
  unfold List.getD
  rw [List.getElem?_eq_getElem h]
  rfl
theorem cut_nL (ns : List Nat) (k : Nat) : cut (nL ns) none (some (k : Int)) = nL (ns.take k) := by
  unfold cut
  rw [HT.sIx_none, HT.sIx_nat, List.drop_zero, Nat.sub_zero, nL_len]
  unfold nL
  rw [← List.map_take]
  congr 1
  rw [Nat.min_def]
  by_cases h : k ≤ ns.length
  · rw [if_pos h]
  · rw [if_neg h, List.take_of_length_le (by omega), List.take_of_length_le (by omega)]
theorem getD_le_sum : ∀ (ns : List Nat) (k : Nat), (ns.take k).sum + ns.getD k 0 ≤ ns.sum
  | [], k => by simp
  | n :: ns, 0 => by simp [List.getD]
  | n :: ns, k + 1 => by
    have := getD_le_sum ns k
    rw [List.take_succ_cons, List.sum_cons, List.sum_cons]
    have e : (n :: ns).getD (k + 1) 0 = ns.getD k 0 := by simp [List.getD]
    rw [e]
    omega
/-- a table -/
structure Tb (t : List Nat) : Prop where
  pos : 0 < t.sum
  small : t.sum < 8192
  len : t.length ≤ 16
abbrev Pr := List Nat × Nat
/-- a table with a letter of it -/
structure PrOk (p : Pr) : Prop where
  tb : Tb p.1
  lt : p.2 < p.1.length
  pos : 0 < p.1.getD p.2 0
def siz (p : Pr) : Nat := p.1.sum
def mny (p : Pr) : Nat := p.1.getD p.2 0
def ahd (p : Pr) : Nat := (p.1.take p.2).sum
theorem PrOk.fit {p : Pr} (h : PrOk p) : ahd p + mny p ≤ siz p := getD_le_sum p.1 p.2
theorem PrOk.sz {p : Pr} (h : PrOk p) : siz p < 8192 := h.tb.small
theorem PrOk.mp {p : Pr} (h : PrOk p) : 0 < mny p := h.pos
def tL (ts : List (List Nat)) : List D := ts.map nT
@[simp] theorem tL_len (ts : List (List Nat)) : (tL ts).length = ts.length := by unfold tL; rw [List.length_map]
theorem tL_at {ts : List (List Nat)} {i : Nat} {d : D} (h : (tL ts)[i]? = some d) : ∃ t, ts[i]? = some t ∧ d = nT t := by
  unfold tL at h
  rw [List.getElem?_map] at h
  cases e : ts[i]? with
  | none => rw [e] at h; cases h
  | some t => rw [e] at h; cases h; exact ⟨t, rfl, rfl⟩
def sp_Unumbers : DSp
  | [.tup ds], m, Q => ∃ ns : List Nat, ds = nL ns ∧ Q (.bl true) m
  | _, _, _ => False
theorem ln_Unumbers : ∀ ds m Qd, sp_Unumbers ds m Qd → ds.length = 1 := by
  intro ds m Qd h
  unfold sp_Unumbers at h
  split at h
  · rfl
  · exact h.elim
theorem rd_Unumbers : ∀ ds m Qd, sp_Unumbers ds m Qd → R_Unumbers sp_is_number { nx := fun s => Qd .non s.m, rt := Qd } ⟨m, startL 2 ds⟩ := by
  intro ds m Qd h
  unfold sp_Unumbers at h
  split at h
  · unfold R_Unumbers
    obtain ⟨ns, rfl, h⟩ := h
    walk_at "dd"
    refine ⟨fun i s => ∃ x, s = ⟨m, [.val (.tup (nL ns)), x]⟩, ⟨_, rfl⟩, ?_, ?_⟩
    · rintro i d s2 hd ⟨x, rfl⟩
      obtain ⟨hi, rfl⟩ := nL_at hd
      walk_at "dd"
      simp only [sp_is_number]
      rw [decide_eq_true (Int.natCast_nonneg _)]
      walk_at "dd"
      exact ⟨_, rfl⟩
    · rintro s2 ⟨x, rfl⟩
      exact h
  · exact h.elim
def sp_is_table : DSp
  | [.tup ds], m, Q => ∃ ns : List Nat, ds = nL ns ∧ 0 < ns.sum ∧ Q (.bl true) m
  | _, _, _ => False
theorem ln_is_table : ∀ ds m Qd, sp_is_table ds m Qd → ds.length = 1 := by
  intro ds m Qd h
  unfold sp_is_table at h
  split at h
  · rfl
  · exact h.elim
theorem rd_is_table : ∀ ds m Qd, sp_is_table ds m Qd → R_is_table sp_Unumbers { nx := fun s => Qd .non s.m, rt := Qd } ⟨m, startL 1 ds⟩ := by
  intro ds m Qd h
  unfold sp_is_table at h
  split at h
  · unfold R_is_table
    obtain ⟨ns, rfl, h0, h⟩ := h
    walk_at "dd"
    simp only [sp_Unumbers]
    refine ⟨ns, rfl, ?_⟩
    walk_at "dd"
    refine ⟨_, nL_ints ns, ?_⟩
    rw [sum_cast, decide_eq_true (show (0 : Int) < ((ns.sum : Nat) : Int) by omega)]
    exact h
  · exact h.elim
def sp_b_stands : DSp
  | [.tup ds, .int l], m, Q => ∃ p : Pr, ds = nL p.1 ∧ l = (p.2 : Nat) ∧ PrOk p ∧ Q (.bl true) m
  | _, _, _ => False
theorem ln_b_stands : ∀ ds m Qd, sp_b_stands ds m Qd → ds.length = 2 := by
  intro ds m Qd h
  unfold sp_b_stands at h
  split at h
  · rfl
  · exact h.elim
theorem rd_b_stands : ∀ ds m Qd, sp_b_stands ds m Qd → R_b_stands sp_is_number { nx := fun s => Qd .non s.m, rt := Qd } ⟨m, startL 2 ds⟩ := by
  intro ds m Qd h
  unfold sp_b_stands at h
  split at h
  · unfold R_b_stands
    obtain ⟨p, rfl, rfl, ok, h⟩ := h
    walk_at "dd"
    simp only [sp_is_number]
    rw [decide_eq_true (Int.natCast_nonneg _)]
    walk_at "dd"
    rw [nL_len, decide_eq_true (show (p.2 : Int) < (p.1.length : Int) by have := ok.lt; omega)]
    walk_at "dd"
    rw [at_nL ok.lt]
    walk_at "dd"
    rw [decide_eq_true (show (0 : Int) < ((p.1.getD p.2 0 : Nat) : Int) by have := ok.pos; omega)]
    exact h
  · exact h.elim
def sp_b_table_letter : DSp
  | [.tup ds, .int l], m, Q => ∃ p : Pr, ds = nL p.1 ∧ l = (p.2 : Nat) ∧ PrOk p ∧ Q .non m
  | _, _, _ => False
theorem ln_b_table_letter : ∀ ds m Qd, sp_b_table_letter ds m Qd → ds.length = 2 := by
  intro ds m Qd h
  unfold sp_b_table_letter at h
  split at h
  · rfl
  · exact h.elim
theorem rd_b_table_letter : ∀ ds m Qd, sp_b_table_letter ds m Qd → R_b_table_letter sp_a_want sp_is_table sp_b_stands { nx := fun s => Qd .non s.m, rt := Qd } ⟨m, startL 2 ds⟩ := by
  intro ds m Qd h
  unfold sp_b_table_letter at h
  split at h
  · unfold R_b_table_letter
    obtain ⟨p, rfl, rfl, ok, h⟩ := h
    walk_at "dd"
    simp only [sp_is_table, sp_b_stands]
    refine ⟨_, rfl, ok.tb.pos, ?_⟩
    simp only [sp_a_want]
    exact ⟨p, rfl, rfl, ok, h⟩
  · exact h.elim
def sp_b_are_tables : DSp
  | [.tup ds], m, Q => ∃ ts : List (List Nat), ds = tL ts ∧ (∀ t ∈ ts, 0 < t.sum) ∧ Q (.bl true) m
  | _, _, _ => False
theorem ln_b_are_tables : ∀ ds m Qd, sp_b_are_tables ds m Qd → ds.length = 1 := by
  intro ds m Qd h
  unfold sp_b_are_tables at h
  split at h
  · rfl
  · exact h.elim
theorem rd_b_are_tables : ∀ ds m Qd, sp_b_are_tables ds m Qd → R_b_are_tables sp_is_table { nx := fun s => Qd .non s.m, rt := Qd } ⟨m, startL 2 ds⟩ := by
  intro ds m Qd h
  unfold sp_b_are_tables at h
  split at h
  · unfold R_b_are_tables
    obtain ⟨ts, rfl, ok, h⟩ := h
    walk_at "dd"
    refine ⟨fun i s => ∃ x, s = ⟨m, [.val (.tup (tL ts)), x]⟩, ⟨_, rfl⟩, ?_, ?_⟩
    · rintro i d s2 hd ⟨x, rfl⟩
      obtain ⟨t, ht, rfl⟩ := tL_at hd
      walk_at "dd"
      simp only [nT, sp_is_table]
      refine ⟨t, rfl, ok t (List.mem_of_getElem? ht), ?_⟩
      walk_at "dd"
      exact ⟨_, rfl⟩
    · rintro s2 ⟨x, rfl⟩
      exact h
  · exact h.elim

def rT (row : List Pr) : List D := tL (row.map (·.1))
def rL (row : List Pr) : List D := nL (row.map (·.2))
@[simp] theorem rT_len (row : List Pr) : (rT row).length = row.length := by unfold rT; rw [tL_len, List.length_map]
@[simp] theorem rL_len (row : List Pr) : (rL row).length = row.length := by unfold rL; rw [nL_len, List.length_map]
theorem rT_get {row : List Pr} {i : Nat} {p : Pr} (h : row[i]? = some p) : (rT row)[i]? = some (nT p.1) := by
  unfold rT tL
  rw [List.getElem?_map, List.getElem?_map, h]
  rfl
theorem rL_get {row : List Pr} {i : Nat} {p : Pr} (h : row[i]? = some p) : (rL row)[i]? = some (.int ((p.2 : Nat) : Int)) := by
  unfold rL
  rw [nL_get, List.getElem?_map, h]
  rfl
theorem zip_at {row : List Pr} {i : Nat} {d : D} (h : (zipD (rT row) (rL row))[i]? = some d) : ∃ p, row[i]? = some p ∧ d = .tup [nT p.1, .int ((p.2 : Nat) : Int)] := by
  have hi := (List.getElem?_eq_some_iff.mp h).1
  rw [zipD_len, rT_len, rL_len] at hi
  have hi : i < row.length := by omega
  have g := List.getElem?_eq_getElem hi
  refine ⟨row[i], g, ?_⟩
  rw [zipD_get (rT_get g) (rL_get g)] at h
  exact (Option.some.inj h).symm
def sp_b_fit : DSp
  | [.tup ds, .tup es], m, Q => ∃ row : List Pr, ds = rT row ∧ es = rL row ∧ (∀ p ∈ row, PrOk p) ∧ Q (.bl true) m
  | _, _, _ => False
theorem ln_b_fit : ∀ ds m Qd, sp_b_fit ds m Qd → ds.length = 2 := by
  intro ds m Qd h
  unfold sp_b_fit at h
  split at h
  · rfl
  · exact h.elim
theorem rd_b_fit : ∀ ds m Qd, sp_b_fit ds m Qd → R_b_fit sp_b_stands { nx := fun s => Qd .non s.m, rt := Qd } ⟨m, startL 4 ds⟩ := by
  intro ds m Qd h
  unfold sp_b_fit at h
  split at h
  · unfold R_b_fit
    obtain ⟨row, rfl, rfl, ok, h⟩ := h
    walk_at "dd"
    simp only [rT_len, rL_len]
    walk_at "dd"
    refine ⟨fun i s => ∃ x y, s = ⟨m, [.val (.tup (rT row)), .val (.tup (rL row)), x, y]⟩, ⟨_, _, rfl⟩, ?_, ?_⟩
    · rintro i d s2 hd ⟨x, y, rfl⟩
      obtain ⟨p, hp, rfl⟩ := zip_at hd
      walk_at "dd"
      simp only [nT, sp_b_stands]
      refine ⟨p, rfl, rfl, ok p (List.mem_of_getElem? hp), ?_⟩
      walk_at "dd"
      exact ⟨_, _, rfl⟩
    · rintro s2 ⟨x, y, rfl⟩
      exact h
  · exact h.elim
def sp_b_tables_letters : DSp
  | [.tup ds, .tup es], m, Q => ∃ row : List Pr, ds = rT row ∧ es = rL row ∧ (∀ p ∈ row, PrOk p) ∧ Q .non m
  | _, _, _ => False
theorem ln_b_tables_letters : ∀ ds m Qd, sp_b_tables_letters ds m Qd → ds.length = 2 := by
  intro ds m Qd h
  unfold sp_b_tables_letters at h
  split at h
  · rfl
  · exact h.elim
theorem rd_b_tables_letters : ∀ ds m Qd, sp_b_tables_letters ds m Qd → R_b_tables_letters sp_a_want sp_b_are_tables sp_b_fit { nx := fun s => Qd .non s.m, rt := Qd } ⟨m, startL 2 ds⟩ := by
  intro ds m Qd h
  unfold sp_b_tables_letters at h
  split at h
  · unfold R_b_tables_letters
    obtain ⟨row, rfl, rfl, ok, h⟩ := h
    walk_at "dd"
    simp only [sp_b_are_tables, sp_b_fit]
    refine ⟨_, rfl, fun t ht => ?_, ?_⟩
    · obtain ⟨p, hp, rfl⟩ := List.mem_map.mp ht
      exact (ok p hp).tb.pos
    · simp only [sp_a_want]
      exact ⟨row, rfl, rfl, ok, h⟩
  · exact h.elim
def sp_chance_of : DSp
  | [.tup ds, .int l], m, Q => ∃ p : Pr, ds = nL p.1 ∧ l = (p.2 : Nat) ∧ PrOk p ∧ Q (Q2 (mny p) (siz p)) m
  | _, _, _ => False
theorem ln_chance_of : ∀ ds m Qd, sp_chance_of ds m Qd → ds.length = 2 := by
  intro ds m Qd h
  unfold sp_chance_of at h
  split at h
  · rfl
  · exact h.elim
theorem rd_chance_of : ∀ ds m Qd, sp_chance_of ds m Qd → R_chance_of sp_b_table_letter sp_over { nx := fun s => Qd .non s.m, rt := Qd } ⟨m, startL 2 ds⟩ := by
  intro ds m Qd h
  unfold sp_chance_of at h
  split at h
  · unfold R_chance_of
    obtain ⟨p, rfl, rfl, ok, h⟩ := h
    walk_at "dd"
    simp only [sp_b_table_letter]
    refine ⟨p, rfl, rfl, ok, ?_⟩
    rw [at_nL ok.lt]
    walk_at "dd"
    refine ⟨_, nL_ints p.1, ?_⟩
    rw [sum_cast]
    have hs := ok.sz
    have hm := ok.mp
    have hf := ok.fit
    have b1 : Lt 13 (1 : Int) := by unfold Lt; decide
    have b2 : Lt 13 ((p.1.getD p.2 0 : Nat) : Int) := by unfold Lt; show mny p < _; simp only [Nat.reducePow]; omega
    have b3 : Lt 13 ((p.1.sum : Nat) : Int) := by unfold Lt; show siz p < _; simp only [Nat.reducePow]; omega
    refine ⟨((p.1.getD p.2 0 : Nat) : Int), 1, ((p.1.sum : Nat) : Int), 1, by rw [q2_one, q2_one], ⟨by decide, by decide⟩, ⟨b2.up, b1.up⟩, ⟨b3.up, b1.up⟩, by have := ok.tb.pos; omega, ?_⟩
    rw [Int.mul_one, Int.one_mul]
    exact h
  · exact h.elim

end DL

/-! part M4 -/
namespace DL
open PySem PySem.Spec PyProof.Rows L2
local macro_rules | `(tactic| walk_at "dd") => `(tactic| simp only [↓e_seq, ↓e_next, ↓e_never, ↓e_ifs, ↓e_ret, ↓e_retN, ↓e_drop, ↓e_brk, ↓e_ct, ↓e_set, ↓e_setF, ↓e_par, ↓e_par3, ↓e_aug, ↓e_asg, ↓e_gNm, ↓e_gTp, ↓e_gsNil, ↓e_gsCons, ↓e_app, ↓e_setIx, ↓e_retM, ↓e_for, ↓e_var, ↓e_VGv, ↓e_VGo, ↓e_peek, ↓e_PG, ↓pk_int, ↓pk_bl, ↓pk_non, ↓pk_str, ↓pk_lst, ↓pk_tup, ↓pk_scr, ↓pk_own, ↓e_AGo, ↓e_AGh, ↓e_HG, ↓e_JG, ↓e_C, ↓e_bin, ↓e_b, ↓e_BG, ↓e_IG, ↓e_chn, ↓e_and, ↓e_or, ↓e_not, ↓e_andV, ↓e_orV, ↓e_notV, ↓e_if, ↓e_tru, ↓tg_bl, ↓tg_int, ↓tg_non, ↓tg_lst, ↓tg_tup, ↓e_nil, ↓e_cons, ↓e_tup, ↓e_lst, ↓lg_0, ↓lg_1, ↓lg_2, ↓lg_3, ↓lg_4, ↓lg_5, ↓lg_6, ↓lg_7, ↓lg_8, ↓lg_9, ↓lg_10, ↓lg_11, ↓lg_12, ↓lg_13, ↓lg_14, ↓lg_15, ↓lg_16, ↓e_fz, ↓e_one, ↓e_oneF, ↓e_ixN, ↓e_neg, ↓e_is, ↓yg_int_int, ↓yg_int_bl, ↓yg_int_non, ↓yg_int_str, ↓yg_int_lst, ↓yg_int_tup, ↓yg_bool_int, ↓yg_bool_bl, ↓yg_bool_non, ↓yg_bool_str, ↓yg_bool_lst, ↓yg_bool_tup, ↓yg_tuple_int, ↓yg_tuple_bl, ↓yg_tuple_non, ↓yg_tuple_str, ↓yg_tuple_lst, ↓yg_tuple_tup, ↓yg_list_int, ↓yg_list_bl, ↓yg_list_non, ↓yg_list_str, ↓yg_list_lst, ↓yg_list_tup, ↓yg_str_int, ↓yg_str_bl, ↓yg_str_non, ↓yg_str_str, ↓yg_str_lst, ↓yg_str_tup, ↓e_call, ↓e_callK, ↓e_isN, ↓e_items, ↓sg_lst, ↓sg_tup, ↓sg_scr, ↓e_slN, ↓e_sl, ↓e_oNone, ↓e_oSome, ↓e_yes, ↓e_lc, ↓e_rng1, ↓e_RG1, ↓e_rng2, ↓e_RG2, ↓e_revRng, ↓e_zip, ↓zg_tup, ↓zg_lst, ↓e_revF, ↓e_lstRg, ↓o_add_i, ↓o_add_b, ↓o_add_t, ↓o_add_l, ↓o_sub, ↓o_mul, ↓o_mul_l, ↓o_div, ↓o_mod, ↓o_pow, ↓o_lt, ↓o_le, ↓o_gt, ↓o_ge, ↓o_eq_i, ↓o_ne_i, ↓o_ix_t, ↓o_ix_l, ↓o_ix_s, ↓o_len_t, ↓o_len_l, ↓o_len_s, ↓o_abs, ↓o_int_i, ↓o_int_b, ↓o_tuple, ↓o_list, ↓o_sum_t, ↓o_sum_l, ↓o_gcd, ↓o_divmod, ↓o_isB, ↓o_notB, ↓o_sl_t, ↓o_sl_l, ↓o_rev_l, ↓o_all, ↓o_any, ↓e_put, ↓pk_mset, ↓mset_s, ↓ix_1_0, ↓ix_2_0, ↓ix_2_1, ↓ix_3_0, ↓ix_3_1, ↓ix_3_2, ↓ix_4_0, ↓ix_4_1, ↓ix_4_2, ↓ix_4_3, ↓ix_5_0, ↓ix_5_1, ↓ix_5_2, ↓ix_5_3, ↓ix_5_4, ↓ix_6_0, ↓ix_6_1, ↓ix_6_2, ↓ix_6_3, ↓ix_6_4, ↓ix_6_5, ↓ix_7_0, ↓ix_7_1, ↓ix_7_2, ↓ix_7_3, ↓ix_7_4, ↓ix_7_5, ↓ix_7_6,
  List.length_cons, List.length_nil, List.map_cons, List.map_nil, List.cons_append, List.nil_append, List.append_nil, List.replicate_succ, List.replicate_zero, Nat.reduceSub, Nat.reduceAdd, Nat.reduceLeDiff, Nat.reduceEqDiff, wipeL, List.set_nil, List.set_cons_zero, List.set_cons_succ, List.getElem?_cons_zero, List.getElem?_cons_succ, List.filterMap_cons, List.filterMap_nil, startL, atI_c0, atI_c1, atI_c2, atI_c3, b2i, Option.some.injEq, D.int.injEq, D.bl.injEq, D.tup.injEq, D.lst.injEq, D.str.injEq, List.cons.injEq, and_true, true_and, and_assoc, ↓reduceIte, Bool.false_eq_true, Bool.not_true, Bool.not_false, if_true, if_false, decide_true, decide_false, Int.cast_ofNat_Int, Int.natCast_one, Int.natCast_zero, Int.reduceBEq, beq_self_eq_true, Int.reduceNeg, Int.reduceLT, Int.reduceLE, isNonB, noH, nT, Bool.true_and, Bool.false_and])

/-! ### leans -/
theorem cmp_le {a b : Int} : decide (cmpI a b ≤ 0) = decide (a ≤ b) := by
  unfold cmpI
  by_cases h1 : a < b
  · rw [if_pos h1, decide_eq_true (show (-1 : Int) ≤ 0 by decide), decide_eq_true (Int.le_of_lt h1)]
  · rw [if_neg h1]
    by_cases h2 : b < a
    · rw [if_pos h2, decide_eq_false (show ¬ (1 : Int) ≤ 0 by decide), decide_eq_false (by omega)]
    · rw [if_neg h2, decide_eq_true (show (0 : Int) ≤ 0 by decide), decide_eq_true (by omega)]
theorem q2_quot {b a : Int} {m : M} {Q : D → M → Prop} (hb : 0 < b) (h : Q (.bl true) m) : sp_is_quotient [Q2 a b] m Q := by
  obtain ⟨x, y, g, hg, ea, eb, hxy, hy, e1⟩ := q2_cases (a := a) hb
  rw [e1]
  exact ⟨⟨hy, hxy⟩, h⟩
/-- a lean by its parts -/
structure LnOk (a b c d e f : Int) : Prop where
  pb : 0 < b
  pd : 0 < d
  pf : 0 < f
  la : Lt 1950 a
  lb : Lt 1950 b
  lc : Lt 1950 c
  ld : Lt 1950 d
  le : Lt 1950 e
  lf : Lt 1950 f
  gr : 0 < a
  ord : c * f ≤ e * d
def Ln (a b c d e f : Int) : D := .tup [Q2 a b, Q2 c d, Q2 e f]
def sp_is_lean : DSp := fun ds m Q => ∃ a b c d e f, ds = [Ln a b c d e f] ∧ LnOk a b c d e f ∧ Q (.bl true) m
theorem ln_is_lean : ∀ ds m Qd, sp_is_lean ds m Qd → ds.length = 1 := by
  rintro ds m Qd ⟨a, b, c, d, e, f, rfl, _⟩
  rfl
theorem rd_is_lean : ∀ ds m Qd, sp_is_lean ds m Qd → R_is_lean sp_is_quotient sp_compare { nx := fun s => Qd .non s.m, rt := Qd } ⟨m, startL 5 ds⟩ := by
  rintro ds m Qd ⟨a, b, c, d, e, f, rfl, ok, h⟩
  unfold R_is_lean
  unfold Ln
  walk_at "dd"
  refine ⟨fun i s => ∃ x, s = ⟨m, [.val (.tup [Q2 a b, Q2 c d, Q2 e f]), x, .no, .no, .no]⟩, ⟨_, rfl⟩, ?_, ?_⟩
  · rintro i q s2 hd ⟨x, rfl⟩
    have hq : q = Q2 a b ∨ q = Q2 c d ∨ q = Q2 e f := by simpa using List.mem_of_getElem? hd
    rcases hq with rfl | rfl | rfl
    all_goals
      walk_at "dd"
      refine q2_quot (by first | exact ok.pb | exact ok.pd | exact ok.pf) ?_
      walk_at "dd"
      exact ⟨_, rfl⟩
  · rintro s2 ⟨x, rfl⟩
    obtain ⟨z, w, k, hk, ea, eb, hzw, hw, e1⟩ := q2_cases (a := a) ok.pb
    rw [e1]
    walk_at "dd"
    have hz : 0 < z := pos_of_mul hk (by rw [← ea]; exact ok.gr)
    rw [decide_eq_true hz]
    walk_at "dd"
    refine ⟨c, d, e, f, rfl, ⟨ok.pd, ok.pf⟩, ⟨ok.lc.up, ok.ld.up⟩, ⟨ok.le.up, ok.lf.up⟩, ?_⟩
    walk_at "dd"
    rw [cmp_le, decide_eq_true ok.ord]
    exact h
def sp_lean_after : DSp := fun ds m Q => ∃ a b c d e f a2 b2 c2 d2 e2 f2, ds = [Ln a b c d e f, Ln a2 b2 c2 d2 e2 f2] ∧ LnOk a b c d e f ∧ LnOk a2 b2 c2 d2 e2 f2 ∧ Q (Ln (a * a2) (b * b2) (a2 * c * d2 + c2 * (b2 * d)) (b2 * d * d2) (a2 * e * f2 + e2 * (b2 * f)) (b2 * f * f2)) m
theorem ln_lean_after : ∀ ds m Qd, sp_lean_after ds m Qd → ds.length = 2 := by
  rintro ds m Qd ⟨a, b, c, d, e, f, a2, b2, c2, d2, e2, f2, rfl, _⟩
  rfl
theorem rd_lean_after : ∀ ds m Qd, sp_lean_after ds m Qd → R_lean_after sp_a_want sp_is_lean sp_plus sp_times { nx := fun s => Qd .non s.m, rt := Qd } ⟨m, startL 8 ds⟩ := by
  rintro ds m Qd ⟨a, b, c, d, e, f, a2, b2, c2, d2, e2, f2, rfl, ok, ok2, h⟩
  unfold R_lean_after
  walk_at "dd"
  refine ⟨a, b, c, d, e, f, rfl, ok, ?_⟩
  simp only [sp_a_want]
  refine ⟨a2, b2, c2, d2, e2, f2, rfl, ok2, ?_⟩
  unfold Ln
  try walk_at "dd"
  refine ⟨a, b, a2, b2, rfl, ⟨ok.pb, ok2.pb⟩, ⟨ok.la.up, ok.lb.up⟩, ⟨ok2.la.up, ok2.lb.up⟩, ?_⟩
  refine ⟨a2, b2, c, d, rfl, ⟨ok2.pb, ok.pd⟩, ⟨ok2.la.up, ok2.lb.up⟩, ⟨ok.lc.up, ok.ld.up⟩, ?_⟩
  refine ⟨_, _, c2, d2, rfl, ⟨Int.mul_pos ok2.pb ok.pd, ok2.pd⟩, ⟨(ok2.la.mul ok.lc).up, (ok2.lb.mul ok.ld).up⟩, ⟨ok2.lc.up, ok2.ld.up⟩, ?_⟩
  refine ⟨a2, b2, e, f, rfl, ⟨ok2.pb, ok.pf⟩, ⟨ok2.la.up, ok2.lb.up⟩, ⟨ok.le.up, ok.lf.up⟩, ?_⟩
  refine ⟨_, _, e2, f2, rfl, ⟨Int.mul_pos ok2.pb ok.pf, ok2.pf⟩, ⟨(ok2.la.mul ok.le).up, (ok2.lb.mul ok.lf).up⟩, ⟨ok2.le.up, ok2.lf.up⟩, ?_⟩
  exact h

def d_NOUGHT : D := .tup [.int 0, .int 1]
theorem q2_nought : d_NOUGHT = Q2 0 1 := (q2_one 0).symm
theorem q2_11 : D.tup [.int 1, .int 1] = Q2 1 1 := (q2_one 1).symm
theorem q2_s1 (x : Int) : D.tup [.int x, .int 1] = Q2 x 1 := (q2_one x).symm
def sp_lean_back : DSp := fun ds m Q => ∃ g l h u, ds = [Ln g u l u h u] ∧ LnOk g u l u h u ∧ Q (Ln u g (-h) g (-l) g) m
theorem ln_lean_back : ∀ ds m Qd, sp_lean_back ds m Qd → ds.length = 1 := by
  rintro ds m Qd ⟨_, _, _, _, rfl, _⟩
  rfl
theorem rd_lean_back : ∀ ds m Qd, sp_lean_back ds m Qd → R_lean_back sp_a_want sp_is_lean sp_over sp_minus d_NOUGHT { nx := fun s => Qd .non s.m, rt := Qd } ⟨m, startL 4 ds⟩ := by
  rintro ds m Qd ⟨g, l, t, u, rfl, ok, h⟩
  unfold R_lean_back
  walk_at "dd"
  refine ⟨g, u, l, u, t, u, rfl, ok, ?_⟩
  simp only [sp_a_want]
  unfold Ln
  walk_at "dd"
  have l1 : Lt 1 (1 : Int) := Lt.one
  have l0 : Lt 1 (0 : Int) := Lt.zero
  refine ⟨1, 1, g, u, by rw [q2_11], ⟨by decide, ok.pb⟩, ⟨l1.up, l1.up⟩, ⟨ok.la.up, ok.lb.up⟩, ok.gr, ?_⟩
  refine ⟨0, 1, t, u, by rw [q2_nought], ⟨by decide, ok.pb⟩, ⟨l0.up, l1.up⟩, ⟨ok.le.up, ok.lb.up⟩, ?_⟩
  simp only [Int.one_mul, Int.zero_mul, Int.mul_one, Int.zero_sub]
  refine ⟨_, _, g, u, rfl, ⟨ok.pb, ok.pb⟩, ⟨ok.le.neg.up, ok.lb.up⟩, ⟨ok.la.up, ok.lb.up⟩, ok.gr, ?_⟩
  refine ⟨0, 1, l, u, by rw [q2_nought], ⟨by decide, ok.pb⟩, ⟨l0.up, l1.up⟩, ⟨ok.lc.up, ok.lb.up⟩, ?_⟩
  simp only [Int.one_mul, Int.zero_mul, Int.mul_one, Int.zero_sub]
  refine ⟨_, _, g, u, rfl, ⟨ok.pb, ok.pb⟩, ⟨ok.lc.neg.up, ok.lb.up⟩, ⟨ok.la.up, ok.lb.up⟩, ok.gr, ?_⟩
  rw [q2_eq (Int.mul_pos ok.pb ok.gr) ok.gr (show -t * u * g = -t * (u * g) by grind), q2_eq (Int.mul_pos ok.pb ok.gr) ok.gr (show -l * u * g = -l * (u * g) by grind)]
  exact h
def sp_lean_holds : DSp := fun ds m Q => ∃ g l h u s t, ds = [Ln g u l u h u, .int s, .int t] ∧ LnOk g u l u h u ∧ (0 ≤ s ∧ 0 ≤ t) ∧ (Lt 1950 s ∧ Lt 1950 t) ∧ Q (.bl (decide (l ≤ t * u - g * s) && decide (t * u - g * s ≤ h))) m
theorem ln_lean_holds : ∀ ds m Qd, sp_lean_holds ds m Qd → ds.length = 3 := by
  rintro ds m Qd ⟨_, _, _, _, _, _, rfl, _⟩
  rfl
theorem rd_lean_holds : ∀ ds m Qd, sp_lean_holds ds m Qd → R_lean_holds sp_a_want sp_is_lean sp_is_number sp_minus sp_times sp_compare { nx := fun s => Qd .non s.m, rt := Qd } ⟨m, startL 7 ds⟩ := by
  rintro ds m Qd ⟨g, l, z, u, s, t, rfl, ok, ⟨hs, ht⟩, ⟨ls, lt⟩, h⟩
  unfold R_lean_holds
  walk_at "dd"
  refine ⟨g, u, l, u, z, u, rfl, ok, ?_⟩
  simp only [sp_is_number, decide_eq_true hs, decide_eq_true ht, sp_a_want]
  unfold Ln
  walk_at "dd"
  have l1 : Lt 1 (1 : Int) := Lt.one
  refine ⟨g, u, s, 1, by rw [q2_one], ⟨ok.pb, by decide⟩, ⟨ok.la.up, ok.lb.up⟩, ⟨ls.up, l1.up⟩, ?_⟩
  rw [Int.mul_one]
  refine ⟨t, 1, _, _, by rw [q2_one], ⟨by decide, ok.pb⟩, ⟨lt.up, l1.up⟩, ⟨(ok.la.mul ls).up, ok.lb.up⟩, ?_⟩
  rw [Int.mul_one, Int.one_mul]
  have lm : Lt 3901 (t * u - g * s) := (lt.mul ok.lb).sub (ok.la.mul ls)
  refine ⟨l, u, _, u, rfl, ⟨ok.pb, ok.pb⟩, ⟨ok.lc.up, ok.lb.up⟩, ⟨lm.up, ok.lb.up⟩, ?_⟩
  try walk_at "dd"
  rw [cmp_le]
  have c1 : ∀ x y : Int, decide (x * u ≤ y * u) = decide (x ≤ y) := fun x y => by
    have : x * u ≤ y * u ↔ x ≤ y := Int.mul_le_mul_right ok.pb
    simp only [this]
  rw [c1]
  by_cases h1 : l ≤ t * u - g * s
  · rw [decide_eq_true h1] at h ⊢
    walk_at "dd"
    refine ⟨_, u, z, u, rfl, ⟨ok.pb, ok.pb⟩, ⟨lm.up, ok.lb.up⟩, ⟨ok.le.up, ok.lb.up⟩, ?_⟩
    walk_at "dd"
    rw [cmp_le, c1]
    rw [Bool.true_and] at h
    exact h
  · rw [decide_eq_false h1] at h ⊢
    walk_at "dd"
    rw [Bool.false_and] at h
    exact h
def sp_b_lean_by : DSp := fun ds m Q => ∃ p : Pr, ds = [nT p.1, .int (p.2 : Nat)] ∧ PrOk p ∧ Q (Ln (siz p) (mny p) (ahd p * mny p - (siz p - mny p) * (mny p - 1)) (mny p) (ahd p) 1) m
theorem ln_b_lean_by : ∀ ds m Qd, sp_b_lean_by ds m Qd → ds.length = 2 := by
  rintro ds m Qd ⟨p, rfl, _⟩
  rfl
theorem rd_b_lean_by : ∀ ds m Qd, sp_b_lean_by ds m Qd → R_b_lean_by sp_over sp_minus { nx := fun s => Qd .non s.m, rt := Qd } ⟨m, startL 7 ds⟩ := by
  rintro ds m Qd ⟨p, rfl, ok, h⟩
  unfold R_b_lean_by
  unfold nT
  walk_at "dd"
  refine ⟨_, nL_ints p.1, ?_⟩
  rw [sum_cast]
  rw [at_nL ok.lt]
  walk_at "dd"
  rw [cut_nL]
  refine ⟨_, nL_ints _, ?_⟩
  rw [sum_cast]
  have hs := ok.sz
  have hm := ok.mp
  have hf := ok.fit
  simp only [show p.1.sum = siz p from rfl, show p.1.getD p.2 0 = mny p from rfl, show (p.1.take p.2).sum = ahd p from rfl]
  try walk_at "dd"
  generalize hz : ((siz p : Nat) : Int) = z at *
  generalize hk : ((mny p : Nat) : Int) = k at *
  generalize ha : ((ahd p : Nat) : Int) = a at *
  have hz0 : 0 < z := by omega
  have hk0 : 0 < k := by omega
  have b1 : Lt 13 (1 : Int) := by unfold Lt; decide
  have bz : Lt 13 z := by unfold Lt; simp only [Nat.reducePow]; omega
  have bk : Lt 13 k := by unfold Lt; simp only [Nat.reducePow]; omega
  have ba : Lt 13 a := by unfold Lt; simp only [Nat.reducePow]; omega
  have bl : Lt 28 ((z - k) * (k - 1)) := ((bz.sub bk).mul (bk.sub b1)).up
  refine ⟨(bz.sub bk).cm (bk.sub b1), _, 1, k, 1, by rw [q2_one, q2_one], ⟨by decide, by decide⟩, ⟨bl.up, b1.up⟩, ⟨bk.up, b1.up⟩, hk0, ?_⟩
  refine ⟨z, 1, k, 1, by rw [q2_one, q2_one], ⟨by decide, by decide⟩, ⟨bz.up, b1.up⟩, ⟨bk.up, b1.up⟩, hk0, ?_⟩
  simp only [Int.one_mul, Int.mul_one]
  refine ⟨a, 1, (z - k) * (k - 1), k, by rw [q2_one], ⟨by decide, hk0⟩, ⟨ba.up, b1.up⟩, ⟨bl.up, bk.up⟩, ?_⟩
  simp only [Int.one_mul, Int.mul_one]
  unfold Ln at h
  rw [q2_one a] at h
  exact h

end DL

/-! part M5 -/
namespace DL
open PySem PySem.Spec PyProof.Rows L2
local macro_rules | `(tactic| walk_at "dd") => `(tactic| simp only [↓e_seq, ↓e_next, ↓e_never, ↓e_ifs, ↓e_ret, ↓e_retN, ↓e_drop, ↓e_brk, ↓e_ct, ↓e_set, ↓e_setF, ↓e_par, ↓e_par3, ↓e_aug, ↓e_asg, ↓e_gNm, ↓e_gTp, ↓e_gsNil, ↓e_gsCons, ↓e_app, ↓e_setIx, ↓e_retM, ↓e_for, ↓e_var, ↓e_VGv, ↓e_VGo, ↓e_peek, ↓e_PG, ↓pk_int, ↓pk_bl, ↓pk_non, ↓pk_str, ↓pk_lst, ↓pk_tup, ↓pk_scr, ↓pk_own, ↓e_AGo, ↓e_AGh, ↓e_HG, ↓e_JG, ↓e_C, ↓e_bin, ↓e_b, ↓e_BG, ↓e_IG, ↓e_chn, ↓e_and, ↓e_or, ↓e_not, ↓e_andV, ↓e_orV, ↓e_notV, ↓e_if, ↓e_tru, ↓tg_bl, ↓tg_int, ↓tg_non, ↓tg_lst, ↓tg_tup, ↓e_nil, ↓e_cons, ↓e_tup, ↓e_lst, ↓lg_0, ↓lg_1, ↓lg_2, ↓lg_3, ↓lg_4, ↓lg_5, ↓lg_6, ↓lg_7, ↓lg_8, ↓lg_9, ↓lg_10, ↓lg_11, ↓lg_12, ↓lg_13, ↓lg_14, ↓lg_15, ↓lg_16, ↓e_fz, ↓e_one, ↓e_oneF, ↓e_ixN, ↓e_neg, ↓e_is, ↓yg_int_int, ↓yg_int_bl, ↓yg_int_non, ↓yg_int_str, ↓yg_int_lst, ↓yg_int_tup, ↓yg_bool_int, ↓yg_bool_bl, ↓yg_bool_non, ↓yg_bool_str, ↓yg_bool_lst, ↓yg_bool_tup, ↓yg_tuple_int, ↓yg_tuple_bl, ↓yg_tuple_non, ↓yg_tuple_str, ↓yg_tuple_lst, ↓yg_tuple_tup, ↓yg_list_int, ↓yg_list_bl, ↓yg_list_non, ↓yg_list_str, ↓yg_list_lst, ↓yg_list_tup, ↓yg_str_int, ↓yg_str_bl, ↓yg_str_non, ↓yg_str_str, ↓yg_str_lst, ↓yg_str_tup, ↓e_call, ↓e_callK, ↓e_isN, ↓e_items, ↓sg_lst, ↓sg_tup, ↓sg_scr, ↓e_slN, ↓e_sl, ↓e_oNone, ↓e_oSome, ↓e_yes, ↓e_lc, ↓e_rng1, ↓e_RG1, ↓e_rng2, ↓e_RG2, ↓e_revRng, ↓e_zip, ↓zg_tup, ↓zg_lst, ↓e_revF, ↓e_lstRg, ↓o_add_i, ↓o_add_b, ↓o_add_t, ↓o_add_l, ↓o_sub, ↓o_mul, ↓o_mul_l, ↓o_div, ↓o_mod, ↓o_pow, ↓o_lt, ↓o_le, ↓o_gt, ↓o_ge, ↓o_eq_i, ↓o_ne_i, ↓o_ix_t, ↓o_ix_l, ↓o_ix_s, ↓o_len_t, ↓o_len_l, ↓o_len_s, ↓o_abs, ↓o_int_i, ↓o_int_b, ↓o_tuple, ↓o_list, ↓o_sum_t, ↓o_sum_l, ↓o_gcd, ↓o_divmod, ↓o_isB, ↓o_notB, ↓o_sl_t, ↓o_sl_l, ↓o_rev_l, ↓o_all, ↓o_any, ↓e_put, ↓pk_mset, ↓mset_s, ↓ix_1_0, ↓ix_2_0, ↓ix_2_1, ↓ix_3_0, ↓ix_3_1, ↓ix_3_2, ↓ix_4_0, ↓ix_4_1, ↓ix_4_2, ↓ix_4_3, ↓ix_5_0, ↓ix_5_1, ↓ix_5_2, ↓ix_5_3, ↓ix_5_4, ↓ix_6_0, ↓ix_6_1, ↓ix_6_2, ↓ix_6_3, ↓ix_6_4, ↓ix_6_5, ↓ix_7_0, ↓ix_7_1, ↓ix_7_2, ↓ix_7_3, ↓ix_7_4, ↓ix_7_5, ↓ix_7_6,
  List.length_cons, List.length_nil, List.map_cons, List.map_nil, List.cons_append, List.nil_append, List.append_nil, List.replicate_succ, List.replicate_zero, Nat.reduceSub, Nat.reduceAdd, Nat.reduceLeDiff, Nat.reduceEqDiff, wipeL, List.set_nil, List.set_cons_zero, List.set_cons_succ, List.getElem?_cons_zero, List.getElem?_cons_succ, List.filterMap_cons, List.filterMap_nil, startL, atI_c0, atI_c1, atI_c2, atI_c3, b2i, Option.some.injEq, D.int.injEq, D.bl.injEq, D.tup.injEq, D.lst.injEq, D.str.injEq, List.cons.injEq, and_true, true_and, and_assoc, ↓reduceIte, Bool.false_eq_true, Bool.not_true, Bool.not_false, if_true, if_false, decide_true, decide_false, Int.cast_ofNat_Int, Int.natCast_one, Int.natCast_zero, Int.reduceBEq, beq_self_eq_true, Int.reduceNeg, Int.reduceLT, Int.reduceLE, isNonB, noH, nT, Bool.true_and, Bool.false_and])

/-! ### pushing and popping, plainly -/
def pushN (p : Pr) (s : Nat) : Nat := siz p * (s / mny p) + ahd p + s % mny p
def loc : List Nat → Nat → Nat
  | [], _ => 0
  | c :: t, q => if q < c then 0 else loc t (q - c) + 1
def popX (t : List Nat) (s : Nat) : Nat := loc t (s % t.sum)
def popS (t : List Nat) (s : Nat) : Nat := t.getD (popX t s) 0 * (s / t.sum) + (s % t.sum - (t.take (popX t s)).sum)
def pushRow : List Pr → Nat → Nat
  | [], s => s
  | p :: r, s => pushN p (pushRow r s)
def popL : List (List Nat) → Nat → List Nat
  | [], _ => []
  | t :: ts, s => popX t s :: popL ts (popS t s)
def popR : List (List Nat) → Nat → Nat
  | [], s => s
  | t :: ts, s => popR ts (popS t s)
theorem loc_spec : ∀ (t : List Nat) (q : Nat), q < t.sum → loc t q < t.length ∧ (t.take (loc t q)).sum ≤ q ∧ q < (t.take (loc t q)).sum + t.getD (loc t q) 0
  | [], q, h => by simp at h
  | c :: t, q, h => by
    unfold loc
    by_cases hq : q < c
    · rw [if_pos hq]
      simp [List.getD, hq]
    · rw [if_neg hq]
      rw [List.sum_cons] at h
      obtain ⟨h1, h2, h3⟩ := loc_spec t (q - c) (by omega)
      rw [List.take_succ_cons, List.sum_cons, List.length_cons]
      have e : (c :: t).getD (loc t (q - c) + 1) 0 = t.getD (loc t (q - c)) 0 := by simp [List.getD]
      rw [e]
      omega
theorem loc_uniq : ∀ (t : List Nat) (x q : Nat), (t.take x).sum ≤ q → q < (t.take x).sum + t.getD x 0 → loc t q = x
  | [], x, q, h1, h2 => by simp [List.getD] at h2
  | c :: t, 0, q, h1, h2 => by
    unfold loc
    rw [if_pos (by simpa [List.getD] using h2)]
  | c :: t, x + 1, q, h1, h2 => by
    rw [List.take_succ_cons, List.sum_cons] at h1 h2
    have e : (c :: t).getD (x + 1) 0 = t.getD x 0 := by simp [List.getD]
    rw [e] at h2
    unfold loc
    rw [if_neg (by omega), loc_uniq t x (q - c) (by omega) (by omega)]
theorem push_pop1 {p : Pr} (ok : PrOk p) (s : Nat) : popX p.1 (pushN p s) = p.2 ∧ popS p.1 (pushN p s) = s := by
  have hm := ok.mp
  have hf := ok.fit
  have hr : s % mny p < mny p := Nat.mod_lt _ hm
  have hz : 0 < siz p := by omega
  have e1 : pushN p s % p.1.sum = ahd p + s % mny p := by
    unfold pushN
    rw [Nat.add_assoc]
    show (siz p * (s / mny p) + (ahd p + s % mny p)) % siz p = _
    rw [Nat.mul_add_mod, Nat.mod_eq_of_lt (by omega)]
  have e2 : pushN p s / p.1.sum = s / mny p := by
    unfold pushN
    rw [Nat.add_assoc]
    show (siz p * (s / mny p) + (ahd p + s % mny p)) / siz p = _
    have q1 : (ahd p + s % mny p) / siz p = 0 := Nat.div_eq_of_lt (by omega)
    rw [Nat.mul_add_div hz, q1, Nat.add_zero]
  have e3 : popX p.1 (pushN p s) = p.2 := by
    unfold popX
    rw [e1]
    refine loc_uniq p.1 p.2 _ ?_ ?_
    · show ahd p ≤ _
      omega
    · show _ < ahd p + mny p
      omega
  refine ⟨e3, ?_⟩
  unfold popS
  rw [e3, e1, e2]
  show mny p * (s / mny p) + (ahd p + s % mny p - ahd p) = s
  rw [Nat.add_sub_cancel_left]
  exact Nat.div_add_mod s (mny p)
theorem pop_push1 {t : List Nat} (ht : Tb t) (s : Nat) : PrOk (t, popX t s) ∧ pushN (t, popX t s) (popS t s) = s := by
  have hq : s % t.sum < t.sum := Nat.mod_lt _ ht.pos
  obtain ⟨h1, h2, h3⟩ := loc_spec t (s % t.sum) hq
  have hx : popX t s = loc t (s % t.sum) := rfl
  rw [← hx] at h1 h2 h3
  have hm : 0 < t.getD (popX t s) 0 := by omega
  refine ⟨⟨ht, h1, hm⟩, ?_⟩
  unfold pushN popS
  show siz (t, popX t s) * ((mny (t, popX t s) * (s / t.sum) + (s % t.sum - ahd (t, popX t s))) / mny (t, popX t s)) + ahd (t, popX t s) + (mny (t, popX t s) * (s / t.sum) + (s % t.sum - ahd (t, popX t s))) % mny (t, popX t s) = s
  have h2 : ahd (t, popX t s) ≤ s % t.sum := h2
  have h3 : s % t.sum < ahd (t, popX t s) + mny (t, popX t s) := h3
  have hm : 0 < mny (t, popX t s) := hm
  have q1 : (s % t.sum - ahd (t, popX t s)) / mny (t, popX t s) = 0 := Nat.div_eq_of_lt (by omega)
  have q2 : (s % t.sum - ahd (t, popX t s)) % mny (t, popX t s) = s % t.sum - ahd (t, popX t s) := Nat.mod_eq_of_lt (by omega)
  rw [Nat.mul_add_div hm, q1, Nat.add_zero, Nat.mul_add_mod, q2]
  have := Nat.div_add_mod s t.sum
  have e : siz (t, popX t s) = t.sum := rfl
  rw [e]
  omega
theorem push_row : ∀ (row : List Pr) (s : Nat), (∀ p ∈ row, PrOk p) → popL (row.map (·.1)) (pushRow row s) = row.map (·.2) ∧ popR (row.map (·.1)) (pushRow row s) = s
  | [], s, _ => ⟨rfl, rfl⟩
  | p :: r, s, h => by
    obtain ⟨h1, h2⟩ := push_pop1 (h p (by simp)) (pushRow r s)
    obtain ⟨h3, h4⟩ := push_row r s fun q hq => h q (by simp [hq])
    refine ⟨?_, ?_⟩
    · show popX p.1 (pushN p (pushRow r s)) :: popL (r.map (·.1)) (popS p.1 (pushN p (pushRow r s))) = p.2 :: r.map (·.2)
      rw [h1, h2, h3]
    · show popR (r.map (·.1)) (popS p.1 (pushN p (pushRow r s))) = s
      rw [h2, h4]
/-- the row that a stack pops -/
def popRow : List (List Nat) → Nat → List Pr
  | [], _ => []
  | t :: ts, s => (t, popX t s) :: popRow ts (popS t s)
theorem popRow_fst : ∀ (ts : List (List Nat)) (s : Nat), (popRow ts s).map (·.1) = ts
  | [], _ => rfl
  | t :: ts, s => by show t :: (popRow ts _).map (·.1) = _; rw [popRow_fst]
theorem popRow_snd : ∀ (ts : List (List Nat)) (s : Nat), (popRow ts s).map (·.2) = popL ts s
  | [], _ => rfl
  | t :: ts, s => by show popX t s :: (popRow ts _).map (·.2) = _; rw [popRow_snd]; rfl
theorem pop_row : ∀ (ts : List (List Nat)) (s : Nat), (∀ t ∈ ts, Tb t) → (∀ p ∈ popRow ts s, PrOk p) ∧ pushRow (popRow ts s) (popR ts s) = s
  | [], s, _ => ⟨fun p h => (by cases h), rfl⟩
  | t :: ts, s, h => by
    obtain ⟨h1, h2⟩ := pop_push1 (h t (by simp)) s
    obtain ⟨h3, h4⟩ := pop_row ts (popS t s) fun q hq => h q (by simp [hq])
    refine ⟨fun p hp => ?_, ?_⟩
    · rcases List.mem_cons.mp hp with rfl | hp
      · exact h1
      · exact h3 p hp
    · show pushN (t, popX t s) (pushRow (popRow ts (popS t s)) (popR ts (popS t s))) = s
      rw [h4, h2]
/-! sizes -/
theorem pushN_lt {p : Pr} (ok : PrOk p) (s : Nat) : pushN p s + 1 ≤ 8192 * (s + 1) := by
  have hm := ok.mp
  have hf := ok.fit
  have hs := ok.sz
  have hr : s % mny p < mny p := Nat.mod_lt _ hm
  unfold pushN
  have h1 : siz p * (s / mny p) ≤ siz p * s := Nat.mul_le_mul_left _ (Nat.div_le_self _ _)
  have h2 : siz p * s ≤ 8191 * s := Nat.mul_le_mul_right _ (by omega)
  omega
theorem pushRow_lt : ∀ (row : List Pr) (s : Nat), (∀ p ∈ row, PrOk p) → pushRow row s + 1 ≤ 8192 ^ row.length * (s + 1)
  | [], s, _ => by show s + 1 ≤ 1 * (s + 1); omega
  | p :: r, s, h => by
    have h1 := pushN_lt (h p (by simp)) (pushRow r s)
    have h2 := pushRow_lt r s fun q hq => h q (by simp [hq])
    show pushN p (pushRow r s) + 1 ≤ 8192 ^ (r.length + 1) * (s + 1)
    rw [Nat.pow_succ, Nat.mul_comm (8192 ^ r.length), Nat.mul_assoc]
    exact Nat.le_trans h1 (Nat.mul_le_mul_left _ h2)
theorem popS_le {t : List Nat} (ht : Tb t) (s : Nat) : popS t s ≤ s := by
  obtain ⟨h1, h2⟩ := pop_push1 ht s
  have hm := h1.mp
  have hf := h1.fit
  have : popS t s ≤ pushN (t, popX t s) (popS t s) := by
    unfold pushN
    have e := Nat.div_add_mod (popS t s) (mny (t, popX t s))
    have : mny (t, popX t s) * (popS t s / mny (t, popX t s)) ≤ siz (t, popX t s) * (popS t s / mny (t, popX t s)) := Nat.mul_le_mul_right _ (by omega)
    omega
  omega
theorem popR_le : ∀ (ts : List (List Nat)) (s : Nat), (∀ t ∈ ts, Tb t) → popR ts s ≤ s
  | [], s, _ => Nat.le_refl _
  | t :: ts, s, h => Nat.le_trans (popR_le ts _ fun q hq => h q (by simp [hq])) (popS_le (h t (by simp)) s)

end DL

/-! part M6 -/
namespace DL
open PySem PySem.Spec PyProof.Rows L2
local macro_rules | `(tactic| walk_at "dd") => `(tactic| simp only [↓e_seq, ↓e_next, ↓e_never, ↓e_ifs, ↓e_ret, ↓e_retN, ↓e_drop, ↓e_brk, ↓e_ct, ↓e_set, ↓e_setF, ↓e_par, ↓e_par3, ↓e_aug, ↓e_asg, ↓e_gNm, ↓e_gTp, ↓e_gsNil, ↓e_gsCons, ↓e_app, ↓e_setIx, ↓e_retM, ↓e_for, ↓e_var, ↓e_VGv, ↓e_VGo, ↓e_peek, ↓e_PG, ↓pk_int, ↓pk_bl, ↓pk_non, ↓pk_str, ↓pk_lst, ↓pk_tup, ↓pk_scr, ↓pk_own, ↓e_AGo, ↓e_AGh, ↓e_HG, ↓e_JG, ↓e_C, ↓e_bin, ↓e_b, ↓e_BG, ↓e_IG, ↓e_chn, ↓e_and, ↓e_or, ↓e_not, ↓e_andV, ↓e_orV, ↓e_notV, ↓e_if, ↓e_tru, ↓tg_bl, ↓tg_int, ↓tg_non, ↓tg_lst, ↓tg_tup, ↓e_nil, ↓e_cons, ↓e_tup, ↓e_lst, ↓lg_0, ↓lg_1, ↓lg_2, ↓lg_3, ↓lg_4, ↓lg_5, ↓lg_6, ↓lg_7, ↓lg_8, ↓lg_9, ↓lg_10, ↓lg_11, ↓lg_12, ↓lg_13, ↓lg_14, ↓lg_15, ↓lg_16, ↓e_fz, ↓e_one, ↓e_oneF, ↓e_ixN, ↓e_neg, ↓e_is, ↓yg_int_int, ↓yg_int_bl, ↓yg_int_non, ↓yg_int_str, ↓yg_int_lst, ↓yg_int_tup, ↓yg_bool_int, ↓yg_bool_bl, ↓yg_bool_non, ↓yg_bool_str, ↓yg_bool_lst, ↓yg_bool_tup, ↓yg_tuple_int, ↓yg_tuple_bl, ↓yg_tuple_non, ↓yg_tuple_str, ↓yg_tuple_lst, ↓yg_tuple_tup, ↓yg_list_int, ↓yg_list_bl, ↓yg_list_non, ↓yg_list_str, ↓yg_list_lst, ↓yg_list_tup, ↓yg_str_int, ↓yg_str_bl, ↓yg_str_non, ↓yg_str_str, ↓yg_str_lst, ↓yg_str_tup, ↓e_call, ↓e_callK, ↓e_isN, ↓e_items, ↓sg_lst, ↓sg_tup, ↓sg_scr, ↓e_slN, ↓e_sl, ↓e_oNone, ↓e_oSome, ↓e_yes, ↓e_lc, ↓e_rng1, ↓e_RG1, ↓e_rng2, ↓e_RG2, ↓e_revRng, ↓e_zip, ↓zg_tup, ↓zg_lst, ↓e_revF, ↓e_lstRg, ↓o_add_i, ↓o_add_b, ↓o_add_t, ↓o_add_l, ↓o_sub, ↓o_mul, ↓o_mul_l, ↓o_div, ↓o_mod, ↓o_pow, ↓o_lt, ↓o_le, ↓o_gt, ↓o_ge, ↓o_eq_i, ↓o_ne_i, ↓o_ix_t, ↓o_ix_l, ↓o_ix_s, ↓o_len_t, ↓o_len_l, ↓o_len_s, ↓o_abs, ↓o_int_i, ↓o_int_b, ↓o_tuple, ↓o_list, ↓o_sum_t, ↓o_sum_l, ↓o_gcd, ↓o_divmod, ↓o_isB, ↓o_notB, ↓o_sl_t, ↓o_sl_l, ↓o_rev_l, ↓o_all, ↓o_any, ↓e_put, ↓pk_mset, ↓mset_s, ↓ix_1_0, ↓ix_2_0, ↓ix_2_1, ↓ix_3_0, ↓ix_3_1, ↓ix_3_2, ↓ix_4_0, ↓ix_4_1, ↓ix_4_2, ↓ix_4_3, ↓ix_5_0, ↓ix_5_1, ↓ix_5_2, ↓ix_5_3, ↓ix_5_4, ↓ix_6_0, ↓ix_6_1, ↓ix_6_2, ↓ix_6_3, ↓ix_6_4, ↓ix_6_5, ↓ix_7_0, ↓ix_7_1, ↓ix_7_2, ↓ix_7_3, ↓ix_7_4, ↓ix_7_5, ↓ix_7_6,
  List.length_cons, List.length_nil, List.map_cons, List.map_nil, List.cons_append, List.nil_append, List.append_nil, List.replicate_succ, List.replicate_zero, Nat.reduceSub, Nat.reduceAdd, Nat.reduceLeDiff, Nat.reduceEqDiff, wipeL, List.set_nil, List.set_cons_zero, List.set_cons_succ, List.getElem?_cons_zero, List.getElem?_cons_succ, List.filterMap_cons, List.filterMap_nil, startL, atI_c0, atI_c1, atI_c2, atI_c3, b2i, Option.some.injEq, D.int.injEq, D.bl.injEq, D.tup.injEq, D.lst.injEq, D.str.injEq, List.cons.injEq, and_true, true_and, and_assoc, ↓reduceIte, Bool.false_eq_true, Bool.not_true, Bool.not_false, if_true, if_false, decide_true, decide_false, Int.cast_ofNat_Int, Int.natCast_one, Int.natCast_zero, Int.reduceBEq, beq_self_eq_true, Int.reduceNeg, Int.reduceLT, Int.reduceLE, isNonB, noH, nT, Bool.true_and, Bool.false_and])

theorem fdiv_nat (a b : Nat) : (a : Int).fdiv (b : Int) = ((a / b : Nat) : Int) := by
  rw [Int.fdiv_eq_ediv_of_nonneg _ (Int.natCast_nonneg b)]
  exact (Int.natCast_ediv a b).symm
theorem fmod_nat (a b : Nat) : (a : Int).fmod (b : Int) = ((a % b : Nat) : Int) := by
  rw [Int.fmod_eq_emod_of_nonneg _ (Int.natCast_nonneg b)]
  exact (Int.natCast_emod a b).symm
theorem cdz {k : Nat} (h : 0 < k) (h2 : k < 2 ^ 8000) : CDivZ (k : Int) := ⟨by omega, by
  have := (show Lt 8000 (k : Int) from h2).log (by decide)
  omega⟩
theorem cdm {k : Nat} (h : 0 < k) (h2 : k < 2 ^ 8000) : CDivM (k : Int) := ⟨by omega, by
  have := (show Lt 8000 (k : Int) from h2).log (by decide)
  omega⟩
theorem small13 {k : Nat} (h : k < 8192) : k < 2 ^ 8000 := Nat.lt_of_lt_of_le (show k < 2 ^ 13 from h) (Nat.pow_le_pow_right (by decide) (by decide))
theorem lt13 {k : Nat} (h : k < 8192) : Lt 13 (k : Int) := h
theorem divN {n k a : Nat} (h : Lt a (n : Int)) : Lt a ((n / k : Nat) : Int) := Nat.lt_of_le_of_lt (Nat.div_le_self n k) h
def sp_push_by : DSp
  | [.int s, .tup ds, .int l], m, Q => ∃ (p : Pr) (n : Nat), s = n ∧ ds = nL p.1 ∧ l = (p.2 : Nat) ∧ PrOk p ∧ Lt 400000 (n : Int) ∧ Q (.int (pushN p n : Nat)) m
  | _, _, _ => False
theorem ln_push_by : ∀ ds m Qd, sp_push_by ds m Qd → ds.length = 3 := by
  intro ds m Qd h
  unfold sp_push_by at h
  split at h
  · rfl
  · exact h.elim
theorem rd_push_by : ∀ ds m Qd, sp_push_by ds m Qd → R_push_by sp_a_want sp_is_number sp_b_table_letter { nx := fun s => Qd .non s.m, rt := Qd } ⟨m, startL 4 ds⟩ := by
  intro ds m Qd h
  unfold sp_push_by at h
  split at h
  · unfold R_push_by
    obtain ⟨p, n, rfl, rfl, rfl, ok, hn, h⟩ := h
    walk_at "dd"
    simp only [sp_is_number, decide_eq_true (Int.natCast_nonneg n), sp_a_want, sp_b_table_letter]
    refine ⟨p, rfl, rfl, ok, ?_⟩
    have hs := ok.sz
    have hm := ok.mp
    have hf := ok.fit
    rw [at_nL ok.lt]
    walk_at "dd"
    refine ⟨_, nL_ints _, ?_⟩
    rw [sum_cast]
    simp only [show p.1.sum = siz p from rfl, show p.1.getD p.2 0 = mny p from rfl, fdiv_nat, fmod_nat, cut_nL]
    try walk_at "dd"
    refine ⟨cdz hm (small13 (by omega)), (lt13 hs).cm (divN hn), _, nL_ints _, by omega, ?_⟩
    rw [sum_cast, ← Int.natCast_mul, ← Int.natCast_add, ← Int.natCast_add]
    exact h
  · exact h.elim
def sp_pop_by : DSp
  | [.int s, .tup ds], m, Q => ∃ (t : List Nat) (n : Nat), s = n ∧ ds = nL t ∧ Tb t ∧ Lt 400000 (n : Int) ∧ Q (.tup [.int (popX t n : Nat), .int (popS t n : Nat)]) m
  | _, _, _ => False
theorem ln_pop_by : ∀ ds m Qd, sp_pop_by ds m Qd → ds.length = 2 := by
  intro ds m Qd h
  unfold sp_pop_by at h
  split at h
  · rfl
  · exact h.elim

/-- the state of a search for the letter of a place -/
structure At0 (t : List Nat) (q x r : Nat) : Prop where
  le : (t.take x).sum + r = q
  lt : r < (t.drop x).sum
  loc : loc t q = loc (t.drop x) r + x
theorem at0_start {t : List Nat} {q : Nat} (h : q < t.sum) : At0 t q 0 q := ⟨by simp, by simpa using h, by simp⟩
theorem at0_in {t : List Nat} {q x r : Nat} (h : At0 t q x r) : x < t.length := by
  rcases Nat.lt_or_ge x t.length with h1 | h1
  · exact h1
  · have := h.lt
    rw [List.drop_of_length_le h1] at this
    simp at this
theorem at0_drop {t : List Nat} {q x r : Nat} (h : At0 t q x r) : t.drop x = t.getD x 0 :: t.drop (x + 1) := by
  have hx := at0_in h
  rw [List.drop_eq_getElem_cons hx]
  congr 1
  unfold List.getD
  rw [List.getElem?_eq_getElem hx]
  rfl
theorem take_succ_sum (t : List Nat) (x : Nat) (hx : x < t.length) : (t.take (x + 1)).sum = (t.take x).sum + t.getD x 0 := by
  rw [List.take_succ_eq_append_getElem hx, List.sum_append]
  unfold List.getD
  rw [List.getElem?_eq_getElem hx]
  simp
theorem at0_step {t : List Nat} {q x r : Nat} (h : At0 t q x r) (hr : t.getD x 0 ≤ r) : At0 t q (x + 1) (r - t.getD x 0) := by
  have e := at0_drop h
  have hx := at0_in h
  have h1 := h.le
  have h2 := h.lt
  have h3 := h.loc
  rw [e, List.sum_cons] at h2
  rw [e] at h3
  refine ⟨?_, by omega, ?_⟩
  · rw [take_succ_sum t x hx]
    omega
  · rw [h3]
    show (if r < t.getD x 0 then 0 else DL.loc (t.drop (x + 1)) (r - t.getD x 0) + 1) + x = _
    rw [if_neg (by omega)]
    omega
theorem at0_end {t : List Nat} {q x r : Nat} (h : At0 t q x r) (hr : r < t.getD x 0) : loc t q = x ∧ r = q - (t.take x).sum := by
  have e := at0_drop h
  have h3 := h.loc
  rw [e] at h3
  refine ⟨?_, by have := h.le; omega⟩
  rw [h3]
  show (if r < t.getD x 0 then 0 else _) + x = x
  rw [if_pos hr]
  omega
theorem dle {a b : Nat} : decide ((a : Int) ≤ (b : Int)) = decide (a ≤ b) := by
  simp only [Int.ofNat_le]
theorem dlt {a b : Nat} : decide ((a : Int) < (b : Int)) = decide (a < b) := by
  simp only [Int.ofNat_lt]
theorem rd_pop_by : ∀ ds m Qd, sp_pop_by ds m Qd → R_pop_by sp_a_want sp_is_number sp_is_table { nx := fun s => Qd .non s.m, rt := Qd } ⟨m, startL 5 ds⟩ := by
  intro ds m Qd h
  unfold sp_pop_by at h
  split at h
  · unfold R_pop_by
    obtain ⟨t, n, rfl, rfl, ht, hn, h⟩ := h
    walk_at "dd"
    simp only [sp_is_number, decide_eq_true (Int.natCast_nonneg n), sp_a_want, sp_is_table]
    refine ⟨t, rfl, ht.pos, _, nL_ints _, ?_⟩
    rw [sum_cast]
    have hs := ht.small
    have h0 := ht.pos
    try walk_at "dd"
    refine ⟨cdm h0 (small13 hs), ?_⟩
    have hq : n % t.sum < t.sum := Nat.mod_lt _ h0
    refine ⟨fun k s => ∃ x r : Nat, At0 t (n % t.sum) x r ∧ k = t.length - x ∧ s = ⟨m, [.val (.int n), .val (nT t), .val (.int ((n / t.sum : Nat) : Int)), .val (.int r), .val (.int x)]⟩, ⟨_, 0, n % t.sum, at0_start hq, rfl, ?_⟩, ?_⟩
    · simp only [Int.natCast_ediv, Int.natCast_emod]
      rfl
    · rintro k s1 ⟨x, r, ha, rfl, rfl⟩
      have hx := at0_in ha
      walk_at "dd"
      rw [at_nL hx]
      walk_at "dd"
      rw [dle]
      by_cases hr : t.getD x 0 ≤ r
      · rw [decide_eq_true hr]
        walk_at "dd"
        rw [at_nL hx]
        walk_at "dd"
        refine ⟨t.length - (x + 1), by omega, x + 1, r - t.getD x 0, at0_step ha hr, rfl, ?_⟩
        rw [Int.ofNat_sub hr, Int.natCast_add]
        rfl
      · rw [decide_eq_false hr]
        obtain ⟨e1, e2⟩ := at0_end ha (by omega)
        walk_at "dd"
        rw [at_nL hx]
        walk_at "dd"
        have hm := getD_le_sum t x
        refine ⟨(lt13 (show t.getD x 0 < 8192 by omega)).cm (divN hn), ?_⟩
        have e3 : popX t n = x := e1
        have e4 : popS t n = t.getD x 0 * (n / t.sum) + r := by unfold popS; rw [e3, e2]
        rw [e3, e4] at h
        rw [← Int.natCast_mul, ← Int.natCast_add]
        exact h
  · exact h.elim

theorem rT_at {row : List Pr} {i : Nat} {p : Pr} (h : row[i]? = some p) : atI (rT row) (i : Int) = some (nT p.1) := atI_nat (rT_get h)
theorem rL_at {row : List Pr} {i : Nat} {p : Pr} (h : row[i]? = some p) : atI (rL row) (i : Int) = some (.int ((p.2 : Nat) : Int)) := atI_nat (rL_get h)
theorem down_at {n i : Nat} {d : D} (h : ((List.range n).map fun i => D.int (0 + ((n : Nat) : Int) - 1 + ((i : Nat) : Int) * (-1)))[i]? = some d) : i < n ∧ d = .int ((n - 1 - i : Nat) : Int) := by
  have hi := (List.getElem?_eq_some_iff.mp h).1
  rw [List.length_map, List.length_range] at hi
  refine ⟨hi, ?_⟩
  rw [List.getElem?_map, List.getElem?_range hi] at h
  rw [← Option.some.inj h]
  show D.int (0 + ((n : Nat) : Int) - 1 + ((i : Nat) : Int) * (-1)) = _
  rw [show (0 + ((n : Nat) : Int) - 1 + ((i : Nat) : Int) * (-1)) = ((n - 1 - i : Nat) : Int) by omega]
theorem lt_pow (x : Nat) {a : Nat} {c n : Nat} (h : x + 1 ≤ 8192 ^ n * (c + 1)) (hc : c + 1 ≤ 2 ^ a) : Lt (13 * n + a) (x : Int) := by
  show x < 2 ^ (13 * n + a)
  have e : (8192 : Nat) ^ n = 2 ^ (13 * n) := by rw [Nat.pow_mul]
  rw [e] at h
  have := Nat.mul_le_mul_left (2 ^ (13 * n)) hc
  rw [Nat.pow_add]
  omega
theorem drop_mem {α : Type} {l : List α} {k : Nat} {x : α} (h : x ∈ l.drop k) : x ∈ l := List.mem_of_mem_drop h
theorem drop_get {α : Type} {l : List α} {k : Nat} (h : k < l.length) : ∃ x, l[k]? = some x ∧ l.drop k = x :: l.drop (k + 1) := ⟨l[k], List.getElem?_eq_getElem h, List.drop_eq_getElem_cons h⟩
def sp_push_letters : DSp
  | [.int s, .tup ds, .tup es], m, Q => ∃ (row : List Pr) (n : Nat), s = n ∧ ds = rT row ∧ es = rL row ∧ (∀ p ∈ row, PrOk p) ∧ row.length ≤ 1000 ∧ Lt 4000 (n : Int) ∧ Q (.int (pushRow row n : Nat)) m
  | _, _, _ => False
theorem ln_push_letters : ∀ ds m Qd, sp_push_letters ds m Qd → ds.length = 3 := by
  intro ds m Qd h
  unfold sp_push_letters at h
  split at h
  · rfl
  · exact h.elim
theorem rd_push_letters : ∀ ds m Qd, sp_push_letters ds m Qd → R_push_letters sp_a_want sp_is_number sp_b_tables_letters sp_push_by { nx := fun s => Qd .non s.m, rt := Qd } ⟨m, startL 4 ds⟩ := by
  intro ds m Qd h
  unfold sp_push_letters at h
  split at h
  · unfold R_push_letters
    obtain ⟨row, n, rfl, rfl, rfl, ok, hl, hn, h⟩ := h
    walk_at "dd"
    simp only [sp_is_number, decide_eq_true (Int.natCast_nonneg n), sp_a_want, sp_b_tables_letters]
    refine ⟨row, rfl, rfl, ok, ?_⟩
    rw [rT_len, Int.toNat_natCast]
    refine ⟨⟨by omega, by omega⟩, ?_⟩
    refine ⟨fun i s => ∃ x, s = ⟨m, [.val (.int (pushRow (row.drop (row.length - i)) n : Nat)), .val (.tup (rT row)), .val (.tup (rL row)), x]⟩, ⟨.no, by simp [pushRow]⟩, ?_, ?_⟩
    · rintro i d s2 hd ⟨x, rfl⟩
      obtain ⟨hi, rfl⟩ := down_at hd
      obtain ⟨p, hp, hdr⟩ := drop_get (l := row) (k := row.length - 1 - i) (by omega)
      walk_at "dd"
      rw [rT_at hp]
      walk_at "dd"
      rw [rL_at hp]
      walk_at "dd"
      simp only [sp_push_by]
      refine ⟨p, _, rfl, rfl, rfl, ok p (List.mem_of_getElem? hp), ?_, .val (.int ((row.length - 1 - i : Nat) : Int)), ?_⟩
      · have h1 := pushRow_lt (row.drop (row.length - i)) n fun q hq => ok q (drop_mem hq)
        have hl2 : (row.drop (row.length - i)).length ≤ 1000 := by rw [List.length_drop]; omega
        refine (lt_pow (a := 4000) _ h1 hn).le (Nat.le_refl _) |>.up ?_
        omega
      · have e1 : row.length - (i + 1) = row.length - 1 - i := by omega
        have e2 : row.length - 1 - i + 1 = row.length - i := by omega
        rw [e1, hdr, e2]
        rfl
    · rintro s2 ⟨x, rfl⟩
      walk_at "dd"
      rw [List.length_map, List.length_range, Nat.sub_self, List.drop_zero]
      exact h
  · exact h.elim

theorem popL_len : ∀ (ts : List (List Nat)) (s : Nat), (popL ts s).length = ts.length
  | [], _ => rfl
  | t :: ts, s => by show (popL ts _).length + 1 = ts.length + 1; rw [popL_len]
theorem popL_take : ∀ (ts : List (List Nat)) (s : Nat) (i : Nat) (t : List Nat), ts[i]? = some t → popL (ts.take (i + 1)) s = popL (ts.take i) s ++ [popX t (popR (ts.take i) s)] ∧ popR (ts.take (i + 1)) s = popS t (popR (ts.take i) s)
  | [], s, i, t, h => by simp at h
  | u :: ts, s, 0, t, h => by
    cases h
    exact ⟨rfl, rfl⟩
  | u :: ts, s, i + 1, t, h => by
    obtain ⟨h1, h2⟩ := popL_take ts (popS u s) i t h
    rw [List.take_succ_cons, List.take_succ_cons]
    exact ⟨by show popX u s :: popL (ts.take (i + 1)) _ = popX u s :: popL (ts.take i) _ ++ _; rw [h1]; rfl, h2⟩
theorem nL_app (a b : List Nat) : nL (a ++ b) = nL a ++ nL b := by unfold nL; rw [List.map_append]
def sp_pop_letters : DSp
  | [.int s, .tup ds], m, Q => ∃ (ts : List (List Nat)) (n : Nat), s = n ∧ ds = tL ts ∧ (∀ t ∈ ts, Tb t) ∧ ts.length ≤ 1000 ∧ Lt 20000 (n : Int) ∧ Q (.tup [nT (popL ts n), .int (popR ts n : Nat)]) m
  | _, _, _ => False
theorem ln_pop_letters : ∀ ds m Qd, sp_pop_letters ds m Qd → ds.length = 2 := by
  intro ds m Qd h
  unfold sp_pop_letters at h
  split at h
  · rfl
  · exact h.elim
theorem rd_pop_letters : ∀ ds m Qd, sp_pop_letters ds m Qd → R_pop_letters sp_a_want sp_is_number sp_b_are_tables sp_pop_by { nx := fun s => Qd .non s.m, rt := Qd } ⟨m, startL 5 ds⟩ := by
  intro ds m Qd h
  unfold sp_pop_letters at h
  split at h
  · unfold R_pop_letters
    obtain ⟨ts, n, rfl, rfl, ok, hl, hn, h⟩ := h
    walk_at "dd"
    simp only [sp_is_number, decide_eq_true (Int.natCast_nonneg n), sp_a_want, sp_b_are_tables]
    refine ⟨ts, rfl, fun t ht => (ok t ht).pos, ?_⟩
    refine ⟨fun i s => ∃ x y, s = ⟨m, [.val (.int (popR (ts.take i) n : Nat)), .val (.tup (tL ts)), .own (nL (popL (ts.take i) n)), x, y]⟩, ⟨.no, .no, by simp [popR, popL, nL]⟩, ?_, ?_⟩
    · rintro i d s2 hd ⟨x, y, rfl⟩
      obtain ⟨t, ht, rfl⟩ := tL_at hd
      have hi := (List.getElem?_eq_some_iff.mp ht).1
      obtain ⟨e1, e2⟩ := popL_take ts n i t ht
      have htb := ok t (List.mem_of_getElem? ht)
      have hle := popR_le (ts.take i) n fun q hq => ok q (List.mem_of_mem_take hq)
      have hln : Lt 20000 ((popR (ts.take i) n : Nat) : Int) := hn.le hle
      have hlen : (popL (ts.take i) n).length ≤ 1000 := by rw [popL_len, List.length_take]; omega
      walk_at "dd"
      simp only [sp_pop_by]
      refine ⟨t, _, rfl, rfl, htb, hln.up, ?_⟩
      try walk_at "dd"
      refine ⟨by rw [nL_len]; exact lt_line (by omega), ?_⟩
      rw [e1, e2, nL_app]
      exact ⟨_, _, rfl⟩
    · rintro s2 ⟨x, y, rfl⟩
      rw [tL_len, List.take_length]
      walk_at "dd"
      exact h
  · exact h.elim
def sp_Ulaw_popped : DSp := fun ds m Q => ∃ (ts : List (List Nat)) (n : Nat), ds = [.int n, .tup (tL ts)] ∧ (∀ t ∈ ts, Tb t) ∧ ts.length ≤ 1000 ∧ Lt 20000 (n : Int) ∧ Q (.tup [nT (popL ts n), .int (popR ts n : Nat)]) m
theorem ln_Ulaw_popped : ∀ ds m Qd, sp_Ulaw_popped ds m Qd → ds.length = 2 := by
  rintro ds m Qd ⟨ts, n, rfl, _⟩
  rfl
theorem rd_Ulaw_popped : ∀ ds m Qd, sp_Ulaw_popped ds m Qd → R_Ulaw_popped { nx := fun s => Qd .non s.m, rt := Qd } ⟨m, startL 8 ds⟩ := by
  rintro ds m Qd ⟨ts, n, rfl, ok, hl, hn, h⟩
  unfold R_Ulaw_popped
  walk_at "dd"
  refine ⟨fun i s => ∃ x y z w u, s = ⟨m, [.val (.int (popR (ts.take i) n : Nat)), .val (.tup (tL ts)), .own (nL (popL (ts.take i) n)), x, y, z, w, u]⟩, ⟨.no, .no, .no, .no, .no, by simp [popR, popL, nL]⟩, ?_, ?_⟩
  · rintro i d s2 hd ⟨x, y, z, w, u, rfl⟩
    obtain ⟨t, ht, rfl⟩ := tL_at hd
    have hi := (List.getElem?_eq_some_iff.mp ht).1
    obtain ⟨e1, e2⟩ := popL_take ts n i t ht
    have htb := ok t (List.mem_of_getElem? ht)
    have hle := popR_le (ts.take i) n fun q hq => ok q (List.mem_of_mem_take hq)
    have hln : Lt 20000 ((popR (ts.take i) n : Nat) : Int) := hn.le hle
    have hlen : (popL (ts.take i) n).length ≤ 1000 := by rw [popL_len, List.length_take]; omega
    walk_at "dd"
    refine ⟨_, nL_ints t, ?_⟩
    rw [sum_cast]
    have hs := htb.small
    have h0 := htb.pos
    have hz : ((t.sum : Nat) : Int) ≠ 0 := by omega
    try walk_at "dd"
    refine ⟨cdz h0 (small13 hs), hz, ?_⟩
    rw [fdiv_nat, fmod_nat]
    generalize hk : popR (ts.take i) n = k at *
    have hq : k % t.sum < t.sum := Nat.mod_lt _ h0
    refine ⟨fun j s => ∃ x r : Nat, At0 t (k % t.sum) x r ∧ j = t.length - x ∧ s = ⟨m, [.val (.int k), .val (.tup (tL ts)), .own (nL (popL (ts.take i) n)), .val (nT t), .val (.int (t.sum : Nat)), .val (.int ((k / t.sum : Nat) : Int)), .val (.int r), .val (.int x)]⟩, ⟨_, 0, k % t.sum, at0_start hq, rfl, rfl⟩, ?_⟩
    rintro j s1 ⟨x, r, ha, rfl, rfl⟩
    have hx := at0_in ha
    walk_at "dd"
    rw [at_nL hx]
    walk_at "dd"
    rw [dle]
    by_cases hr : t.getD x 0 ≤ r
    · rw [decide_eq_true hr]
      walk_at "dd"
      rw [at_nL hx]
      walk_at "dd"
      refine ⟨t.length - (x + 1), by omega, x + 1, r - t.getD x 0, at0_step ha hr, rfl, ?_⟩
      rw [Int.ofNat_sub hr, Int.natCast_add]
      rfl
    · rw [decide_eq_false hr]
      obtain ⟨e3, e4⟩ := at0_end ha (by omega)
      have e3 : popX t k = x := e3
      have e5 : popS t k = t.getD x 0 * (k / t.sum) + r := by unfold popS; rw [e3, e4]
      rw [e3] at e1
      rw [e5] at e2
      have hm := getD_le_sum t x
      walk_at "dd"
      rw [at_nL hx]
      walk_at "dd"
      refine ⟨by rw [nL_len]; exact lt_line (by omega), (lt13 (show t.getD x 0 < 8192 by omega)).cm (divN hln), ?_⟩
      rw [e1, e2, nL_app, ← Int.natCast_mul, ← Int.natCast_add]
      exact ⟨_, _, _, _, _, rfl⟩
  · rintro s2 ⟨x, y, z, w, u, rfl⟩
    rw [tL_len, List.take_length]
    walk_at "dd"
    exact h

end DL

/-! part M7 -/
namespace DL
open PySem PySem.Spec PyProof.Rows L2
local macro_rules | `(tactic| walk_at "dd") => `(tactic| simp only [↓e_seq, ↓e_next, ↓e_never, ↓e_ifs, ↓e_ret, ↓e_retN, ↓e_drop, ↓e_brk, ↓e_ct, ↓e_set, ↓e_setF, ↓e_par, ↓e_par3, ↓e_aug, ↓e_asg, ↓e_gNm, ↓e_gTp, ↓e_gsNil, ↓e_gsCons, ↓e_app, ↓e_setIx, ↓e_retM, ↓e_for, ↓e_var, ↓e_VGv, ↓e_VGo, ↓e_peek, ↓e_PG, ↓pk_int, ↓pk_bl, ↓pk_non, ↓pk_str, ↓pk_lst, ↓pk_tup, ↓pk_scr, ↓pk_own, ↓e_AGo, ↓e_AGh, ↓e_HG, ↓e_JG, ↓e_C, ↓e_bin, ↓e_b, ↓e_BG, ↓e_IG, ↓e_chn, ↓e_and, ↓e_or, ↓e_not, ↓e_andV, ↓e_orV, ↓e_notV, ↓e_if, ↓e_tru, ↓tg_bl, ↓tg_int, ↓tg_non, ↓tg_lst, ↓tg_tup, ↓e_nil, ↓e_cons, ↓e_tup, ↓e_lst, ↓lg_0, ↓lg_1, ↓lg_2, ↓lg_3, ↓lg_4, ↓lg_5, ↓lg_6, ↓lg_7, ↓lg_8, ↓lg_9, ↓lg_10, ↓lg_11, ↓lg_12, ↓lg_13, ↓lg_14, ↓lg_15, ↓lg_16, ↓e_fz, ↓e_one, ↓e_oneF, ↓e_ixN, ↓e_neg, ↓e_is, ↓yg_int_int, ↓yg_int_bl, ↓yg_int_non, ↓yg_int_str, ↓yg_int_lst, ↓yg_int_tup, ↓yg_bool_int, ↓yg_bool_bl, ↓yg_bool_non, ↓yg_bool_str, ↓yg_bool_lst, ↓yg_bool_tup, ↓yg_tuple_int, ↓yg_tuple_bl, ↓yg_tuple_non, ↓yg_tuple_str, ↓yg_tuple_lst, ↓yg_tuple_tup, ↓yg_list_int, ↓yg_list_bl, ↓yg_list_non, ↓yg_list_str, ↓yg_list_lst, ↓yg_list_tup, ↓yg_str_int, ↓yg_str_bl, ↓yg_str_non, ↓yg_str_str, ↓yg_str_lst, ↓yg_str_tup, ↓e_call, ↓e_callK, ↓e_isN, ↓e_items, ↓sg_lst, ↓sg_tup, ↓sg_scr, ↓e_slN, ↓e_sl, ↓e_oNone, ↓e_oSome, ↓e_yes, ↓e_lc, ↓e_rng1, ↓e_RG1, ↓e_rng2, ↓e_RG2, ↓e_revRng, ↓e_zip, ↓zg_tup, ↓zg_lst, ↓e_revF, ↓e_lstRg, ↓o_add_i, ↓o_add_b, ↓o_add_t, ↓o_add_l, ↓o_sub, ↓o_mul, ↓o_mul_l, ↓o_div, ↓o_mod, ↓o_pow, ↓o_lt, ↓o_le, ↓o_gt, ↓o_ge, ↓o_eq_i, ↓o_ne_i, ↓o_ix_t, ↓o_ix_l, ↓o_ix_s, ↓o_len_t, ↓o_len_l, ↓o_len_s, ↓o_abs, ↓o_int_i, ↓o_int_b, ↓o_tuple, ↓o_list, ↓o_sum_t, ↓o_sum_l, ↓o_gcd, ↓o_divmod, ↓o_isB, ↓o_notB, ↓o_sl_t, ↓o_sl_l, ↓o_rev_l, ↓o_all, ↓o_any, ↓e_put, ↓pk_mset, ↓mset_s, ↓ix_1_0, ↓ix_2_0, ↓ix_2_1, ↓ix_3_0, ↓ix_3_1, ↓ix_3_2, ↓ix_4_0, ↓ix_4_1, ↓ix_4_2, ↓ix_4_3, ↓ix_5_0, ↓ix_5_1, ↓ix_5_2, ↓ix_5_3, ↓ix_5_4, ↓ix_6_0, ↓ix_6_1, ↓ix_6_2, ↓ix_6_3, ↓ix_6_4, ↓ix_6_5, ↓ix_7_0, ↓ix_7_1, ↓ix_7_2, ↓ix_7_3, ↓ix_7_4, ↓ix_7_5, ↓ix_7_6,
  List.length_cons, List.length_nil, List.map_cons, List.map_nil, List.cons_append, List.nil_append, List.append_nil, List.replicate_succ, List.replicate_zero, Nat.reduceSub, Nat.reduceAdd, Nat.reduceLeDiff, Nat.reduceEqDiff, wipeL, List.set_nil, List.set_cons_zero, List.set_cons_succ, List.getElem?_cons_zero, List.getElem?_cons_succ, List.filterMap_cons, List.filterMap_nil, startL, atI_c0, atI_c1, atI_c2, atI_c3, b2i, Option.some.injEq, D.int.injEq, D.bl.injEq, D.tup.injEq, D.lst.injEq, D.str.injEq, List.cons.injEq, and_true, true_and, and_assoc, ↓reduceIte, Bool.false_eq_true, Bool.not_true, Bool.not_false, if_true, if_false, decide_true, decide_false, Int.cast_ofNat_Int, Int.natCast_one, Int.natCast_zero, Int.reduceBEq, beq_self_eq_true, Int.reduceNeg, Int.reduceLT, Int.reduceLE, isNonB, noH, nT, Bool.true_and, Bool.false_and])

/-! ### the lean of a row -/
def lG : List Pr → Int
  | [] => 1
  | p :: r => lG r * siz p
def lU : List Pr → Int
  | [] => 1
  | p :: r => lU r * mny p
def gapL (p : Pr) : Int := ahd p * mny p - (siz p - mny p) * (mny p - 1)
def lL : List Pr → Int
  | [] => 0
  | p :: r => siz p * lL r + gapL p * lU r
def lH : List Pr → Int
  | [] => 0
  | p :: r => siz p * lH r + (ahd p * mny p : Int) * lU r
theorem gap_lt {p : Pr} (ok : PrOk p) : Lt 26 (gapL p) ∧ Lt 26 (ahd p * mny p : Int) ∧ gapL p ≤ ahd p * mny p := by
  have hs := ok.sz
  have hm := ok.mp
  have hf := ok.fit
  have h1 : (0 : Int) ≤ ((siz p : Int) - mny p) * (mny p - 1) := Int.mul_nonneg (by omega) (by omega)
  have h2 : ((siz p : Int) - mny p) * (mny p - 1) ≤ 8192 * 8192 := Int.mul_le_mul (by omega) (by omega) (by omega) (by omega)
  have h3 : (0 : Int) ≤ (ahd p * mny p : Int) := Int.mul_nonneg (by omega) (by omega)
  have h4 : (ahd p * mny p : Int) < 8192 * 8192 := by
    have : (ahd p * mny p : Int) ≤ 8191 * 8191 := Int.mul_le_mul (by omega) (by omega) (by omega) (by omega)
    omega
  have h5 : ((siz p : Int) - mny p) * (mny p - 1) ≤ 8191 * 8191 := Int.mul_le_mul (by omega) (by omega) (by omega) (by omega)
  refine ⟨?_, ?_, ?_⟩
  · unfold Lt gapL
    simp only [Nat.reducePow]
    omega
  · unfold Lt
    simp only [Nat.reducePow]
    omega
  · unfold gapL
    omega
structure RowOk (row : List Pr) : Prop where
  ok : ∀ p ∈ row, PrOk p
  len : row.length ≤ 40
theorem RowOk.tl {p : Pr} {r : List Pr} (h : RowOk (p :: r)) : RowOk r := ⟨fun q hq => h.ok q (by simp [hq]), by have := h.len; simp at this; omega⟩
theorem RowOk.drop {r : List Pr} (h : RowOk r) (k : Nat) : RowOk (r.drop k) := ⟨fun q hq => h.ok q (drop_mem hq), by rw [List.length_drop]; have := h.len; omega⟩
theorem mul_lt {x y : Nat} {a b : Nat} (h : x < 2 ^ a) (k : y ≤ 2 ^ b) : x * y < 2 ^ (a + b) ∨ (x = 0 ∨ True) := .inr (.inr trivial)
theorem lean_facts : ∀ {row : List Pr}, (∀ p ∈ row, PrOk p) → 0 < lG row ∧ 0 < lU row ∧ Lt (13 * row.length + 1) (lG row) ∧ Lt (13 * row.length + 1) (lU row) ∧ Lt (28 * row.length + 1) (lL row) ∧ Lt (28 * row.length + 1) (lH row) ∧ lL row ≤ lH row
  | [], _ => ⟨by decide, by decide, by unfold Lt lG; decide, by unfold Lt lU; decide, Lt.zero, Lt.zero, Int.le_refl _⟩
  | p :: r, h => by
    obtain ⟨h1, h2, h3, h4, h5, h6, h7⟩ := lean_facts fun q hq => h q (List.mem_cons_of_mem _ hq)
    have okp := h p (by simp)
    have hs := okp.sz
    have hm := okp.mp
    have hf := okp.fit
    obtain ⟨g1, g2, g3⟩ := gap_lt okp
    have bz : Lt 13 (siz p : Int) := lt13 hs
    have bm : Lt 13 (mny p : Int) := lt13 (by omega)
    rw [List.length_cons]
    refine ⟨Int.mul_pos h1 (by omega), Int.mul_pos h2 (by omega), (h3.mul bz).up (by omega), (h4.mul bm).up (by omega), ?_, ?_, ?_⟩
    · have x1 : Lt (28 * r.length + 27) (siz p * lL r) := (bz.mul h5).up (by omega)
      have x2 : Lt (28 * r.length + 27) (gapL p * lU r) := (g1.mul h4).up (by omega)
      exact (x1.add x2).up (by omega)
    · have x1 : Lt (28 * r.length + 27) (siz p * lH r) := (bz.mul h6).up (by omega)
      have x2 : Lt (28 * r.length + 27) ((ahd p * mny p : Int) * lU r) := (g2.mul h4).up (by omega)
      exact (x1.add x2).up (by omega)
    · show siz p * lL r + gapL p * lU r ≤ siz p * lH r + (ahd p * mny p : Int) * lU r
      have := Int.mul_le_mul_of_nonneg_left h7 (show (0 : Int) ≤ siz p by omega)
      have := Int.mul_le_mul_of_nonneg_right g3 (Int.le_of_lt h2)
      omega
theorem lean_ok {row : List Pr} (h : RowOk row) : LnOk (lG row) (lU row) (lL row) (lU row) (lH row) (lU row) := by
  obtain ⟨h1, h2, h3, h4, h5, h6, h7⟩ := lean_facts h.ok
  have hl := h.len
  exact ⟨h2, h2, h2, h3.up (by omega), h4.up (by omega), h5.up (by omega), h4.up (by omega), h6.up (by omega), h4.up (by omega), h1, Int.mul_le_mul_of_nonneg_right h7 (Int.le_of_lt h2)⟩
theorem by_ok {p : Pr} (okp : PrOk p) : LnOk (siz p) (mny p) (gapL p) (mny p) (ahd p) 1 := by
  have hs := okp.sz
  have hm := okp.mp
  have hf := okp.fit
  obtain ⟨g1, g2, g3⟩ := gap_lt okp
  have bz : Lt 13 (siz p : Int) := lt13 hs
  have bm : Lt 13 (mny p : Int) := lt13 (by omega)
  have ba : Lt 13 (ahd p : Int) := lt13 (by omega)
  exact ⟨by omega, by omega, by decide, bz.up, bm.up, g1.up, bm.up, ba.up, Lt.one.up, by omega, by rw [Int.mul_one]; exact g3⟩
def LnR (row : List Pr) : D := Ln (lG row) (lU row) (lL row) (lU row) (lH row) (lU row)
theorem LnR_cons {p : Pr} {r : List Pr} (h : RowOk (p :: r)) : Ln (lG r * siz p) (lU r * mny p) (siz p * lL r * mny p + gapL p * (mny p * lU r)) (mny p * lU r * mny p) (siz p * lH r * 1 + ahd p * (mny p * lU r)) (mny p * lU r * 1) = LnR (p :: r) := by
  have okp := h.ok p (by simp)
  have hm := okp.mp
  obtain ⟨h1, h2, h3, h4, h5, h6, h7⟩ := lean_facts h.tl.ok
  have hm0 : (0 : Int) < mny p := by omega
  have u0 : 0 < lU r * mny p := Int.mul_pos h2 hm0
  unfold LnR Ln
  have e1 : Q2 (siz p * lL r * mny p + gapL p * (mny p * lU r)) (mny p * lU r * mny p) = Q2 (lL (p :: r)) (lU (p :: r)) := q2_eq (Int.mul_pos (Int.mul_pos hm0 h2) hm0) u0 (by
    show _ = (siz p * lL r + gapL p * lU r) * _
    show _ * (lU r * mny p) = _
    grind)
  have e2 : Q2 (siz p * lH r * 1 + ahd p * (mny p * lU r)) (mny p * lU r * 1) = Q2 (lH (p :: r)) (lU (p :: r)) := q2_eq (by rw [Int.mul_one]; exact Int.mul_pos hm0 h2) u0 (by
    show _ = (siz p * lH r + (ahd p * mny p : Int) * lU r) * _
    show _ * (lU r * mny p) = _
    grind)
  rw [e1, e2]
  rfl
def sp_lean_of_row : DSp := fun ds m Q => ∃ row : List Pr, ds = [.tup (rT row), .tup (rL row)] ∧ RowOk row ∧ Q (LnR row) m
theorem ln_lean_of_row : ∀ ds m Qd, sp_lean_of_row ds m Qd → ds.length = 2 := by
  rintro ds m Qd ⟨row, rfl, _⟩
  rfl
theorem rd_lean_of_row : ∀ ds m Qd, sp_lean_of_row ds m Qd → R_lean_of_row sp_b_tables_letters sp_lean_after sp_b_lean_by { nx := fun s => Qd .non s.m, rt := Qd } ⟨m, startL 4 ds⟩ := by
  rintro ds m Qd ⟨row, rfl, ok, h⟩
  unfold R_lean_of_row
  walk_at "dd"
  simp only [sp_b_tables_letters]
  refine ⟨row, rfl, rfl, ok.ok, ?_⟩
  rw [rT_len, Int.toNat_natCast]
  have hl := ok.len
  refine ⟨⟨by omega, by omega⟩, ?_⟩
  refine ⟨fun i s => ∃ x, s = ⟨m, [.val (.tup (rT row)), .val (.tup (rL row)), .val (LnR (row.drop (row.length - i))), x]⟩, ⟨.no, ?_⟩, ?_, ?_⟩
  · rw [Nat.sub_zero, List.drop_length, q2_11, ← q2_one]
    rfl
  · rintro i d s2 hd ⟨x, rfl⟩
    obtain ⟨hi, rfl⟩ := down_at hd
    obtain ⟨p, hp, hdr⟩ := drop_get (l := row) (k := row.length - 1 - i) (by omega)
    walk_at "dd"
    rw [rT_at hp]
    walk_at "dd"
    rw [rL_at hp]
    walk_at "dd"
    refine ⟨p, rfl, ok.ok p (List.mem_of_getElem? hp), ?_⟩
    have e1 : row.length - (i + 1) = row.length - 1 - i := by omega
    have e2 : row.length - 1 - i + 1 = row.length - i := by omega
    have ok2 : RowOk (p :: row.drop (row.length - i)) := by rw [← e2, ← hdr]; exact ok.drop _
    refine ⟨_, _, _, _, _, _, _, _, _, _, _, _, rfl, lean_ok ok2.tl, by_ok (ok.ok p (List.mem_of_getElem? hp)), ?_⟩
    have := LnR_cons ok2
    try walk_at "dd"
    rw [e1, hdr, e2, ← this]
    exact ⟨_, rfl⟩
  · rintro s2 ⟨x, rfl⟩
    walk_at "dd"
    rw [List.length_map, List.length_range, Nat.sub_self, List.drop_zero]
    exact h

theorem rgrev_at {n i : Nat} {d : D} (h : ((rgD 0 (n : Int)).reverse)[i]? = some d) : i < n ∧ d = .int ((n - 1 - i : Nat) : Int) := by
  have hl : (rgD 0 (n : Int)).length = n := by unfold rgD; rw [List.length_map, List.length_range]; omega
  have hi := (List.getElem?_eq_some_iff.mp h).1
  rw [List.length_reverse, hl] at hi
  refine ⟨hi, ?_⟩
  rw [List.getElem?_reverse (by rw [hl]; exact hi), hl] at h
  unfold rgD at h
  rw [List.getElem?_map, List.getElem?_range (by omega)] at h
  rw [← Option.some.inj h]
  show D.int (0 + ((n - 1 - i : Nat) : Int)) = _
  rw [Int.zero_add]
theorem rng_at {n i : Nat} {d : D} (h : ((List.range n).map fun i => D.int (0 + ((i : Nat) : Int)))[i]? = some d) : i < n ∧ d = .int (i : Int) := by
  have hi := (List.getElem?_eq_some_iff.mp h).1
  rw [List.length_map, List.length_range] at hi
  refine ⟨hi, ?_⟩
  rw [List.getElem?_map, List.getElem?_range hi] at h
  rw [← Option.some.inj h]
  show D.int (0 + (i : Int)) = _
  rw [Int.zero_add]
def gapI (p : Pr) (i : Int) : Int := mny p * (ahd p + i) - siz p * i
theorem gap_le {p : Pr} (ok : PrOk p) {i : Nat} (hi : i < mny p) : gapL p ≤ gapI p i ∧ gapI p i ≤ ahd p * mny p := by
  have hs := ok.sz
  have hm := ok.mp
  have hf := ok.fit
  have e : gapI p i = ahd p * mny p - (siz p - mny p) * i := by unfold gapI; grind
  have h1 : (0 : Int) ≤ ((siz p : Int) - mny p) * i := Int.mul_nonneg (by omega) (by omega)
  have h2 : ((siz p : Int) - mny p) * i ≤ ((siz p : Int) - mny p) * (mny p - 1) := Int.mul_le_mul_of_nonneg_left (by omega) (by omega)
  unfold gapL
  omega
theorem gap_0 (p : Pr) : gapI p 0 = ahd p * mny p := by unfold gapI; grind
theorem gap_m {p : Pr} (ok : PrOk p) : gapI p ((mny p - 1 : Nat) : Int) = gapL p := by
  have hm := ok.mp
  have e : ((mny p - 1 : Nat) : Int) = (mny p : Int) - 1 := by omega
  rw [e]
  unfold gapI gapL
  grind
def gaps (p : Pr) : List Int := (List.range (mny p)).map fun i : Nat => gapI p i
theorem mem_gaps {p : Pr} {x : Int} : x ∈ gaps p ↔ ∃ i : Nat, i < mny p ∧ gapI p i = x := by
  unfold gaps
  rw [List.mem_map]
  simp only [List.mem_range]
theorem dMin_of {ns : List Int} {q : D → Prop} {x : Int} (hx : x ∈ ns) (hle : ∀ y ∈ ns, x ≤ y) (h : q (.int x)) : dMin (.lst (ns.map D.int)) q := by
  refine ⟨ns, rfl, List.length_pos_of_mem hx, fun m hm hy => ?_⟩
  rw [show m = x from Int.le_antisymm (hy x hx) (hle m hm)]
  exact h
theorem dMax_of {ns : List Int} {q : D → Prop} {x : Int} (hx : x ∈ ns) (hle : ∀ y ∈ ns, y ≤ x) (h : q (.int x)) : dMax (.lst (ns.map D.int)) q := by
  refine ⟨ns, rfl, List.length_pos_of_mem hx, fun m hm hy => ?_⟩
  rw [show m = x from Int.le_antisymm (hle m hm) (hy x hx)]
  exact h
def sp_Ulaw_lean : DSp := fun ds m Q => ∃ row : List Pr, ds = [.tup (rT row), .tup (rL row)] ∧ RowOk row ∧ Q (.tup [.int (lG row), .int (lL row), .int (lH row), .int (lU row)]) m
theorem ln_Ulaw_lean : ∀ ds m Qd, sp_Ulaw_lean ds m Qd → ds.length = 2 := by
  rintro ds m Qd ⟨row, rfl, _⟩
  rfl
theorem rd_Ulaw_lean : ∀ ds m Qd, sp_Ulaw_lean ds m Qd → R_Ulaw_lean { nx := fun s => Qd .non s.m, rt := Qd } ⟨m, startL 14 ds⟩ := by
  rintro ds m Qd ⟨row, rfl, ok, h⟩
  unfold R_Ulaw_lean
  have hl := ok.len
  walk_at "dd"
  rw [rT_len]
  refine ⟨by omega, by omega, ?_⟩
  refine ⟨fun i s => ∃ x6 x7 x8 x9 x10 x11 ds, s = ⟨m, [.val (.tup (rT row)), .val (.tup (rL row)), .val (.int (lG (row.drop (row.length - i)))), .val (.int (lL (row.drop (row.length - i)))), .val (.int (lH (row.drop (row.length - i)))), .val (.int (lU (row.drop (row.length - i)))), x6, x7, x8, x9, x10, x11, ds, .no]⟩, ⟨.no, .no, .no, .no, .no, .no, .no, ?_⟩, ?_, ?_⟩
  · rw [Nat.sub_zero, List.drop_length]
    rfl
  · rintro i d s2 hd ⟨x6, x7, x8, x9, x10, x11, xs, rfl⟩
    obtain ⟨hi, rfl⟩ := rgrev_at hd
    obtain ⟨p, hp, hdr⟩ := drop_get (l := row) (k := row.length - 1 - i) (by omega)
    have e1 : row.length - (i + 1) = row.length - 1 - i := by omega
    have e2 : row.length - 1 - i + 1 = row.length - i := by omega
    have okp := ok.ok p (List.mem_of_getElem? hp)
    have hs := okp.sz
    have hm := okp.mp
    have hf := okp.fit
    obtain ⟨g1, g2, g3⟩ := gap_lt okp
    have bz : Lt 13 (siz p : Int) := lt13 hs
    have bm : Lt 13 (mny p : Int) := lt13 (by omega)
    walk_at "dd"
    rw [rT_at hp]
    walk_at "dd"
    rw [rL_at hp]
    walk_at "dd"
    refine ⟨_, nL_ints _, ?_⟩
    rw [sum_cast, at_nL okp.lt]
    walk_at "dd"
    rw [cut_nL]
    refine ⟨_, nL_ints _, ?_⟩
    rw [sum_cast]
    simp only [show p.1.sum = siz p from rfl, show p.1.getD p.2 0 = mny p from rfl, show (p.1.take p.2).sum = ahd p from rfl]
    try walk_at "dd"
    rw [Int.toNat_natCast]
    refine ⟨⟨by omega, by omega⟩, lc_map (fun i => .int (gapI p i)) rfl (by simp; omega) (fun j d hj Q' hq => ?_) ?_⟩
    · obtain ⟨hj2, rfl⟩ := rng_at hj
      walk_at "dd"
      have bj : Lt 13 (j : Int) := lt13 (by omega)
      have ba : Lt 13 (ahd p : Int) := lt13 (by omega)
      exact ⟨bm.cm (ba.add bj), bz.cm bj, hq _ rfl rfl⟩
    · rw [List.length_map, List.length_range]
      have eg : (List.range (mny p)).map (fun i : Nat => D.int (gapI p i)) = (gaps p).map D.int := by unfold gaps; rw [List.map_map]; rfl
      rw [eg]
      obtain ⟨f1, f2, f3, f4, f5, f6, f7⟩ := lean_facts (ok.drop (row.length - i)).ok
      have hd2 : (row.drop (row.length - i)).length ≤ 40 := by rw [List.length_drop]; omega
      generalize hr : row.drop (row.length - i) = r at *
      have f3 : Lt 2000 (lG r) := f3.up (by omega)
      have f4 : Lt 2000 (lU r) := f4.up (by omega)
      have f5 : Lt 2000 (lL r) := f5.up (by omega)
      have f6 : Lt 2000 (lH r) := f6.up (by omega)
      walk_at "dd"
      refine ⟨bz.cm f5, dMin_of (x := gapL p) (mem_gaps.mpr ⟨mny p - 1, by omega, gap_m okp⟩) (fun y hy => ?_) ?_⟩
      · obtain ⟨k, hk, rfl⟩ := mem_gaps.mp hy
        exact (gap_le okp hk).1
      walk_at "dd"
      refine ⟨g1.cm f4, bz.cm f6, dMax_of (x := ahd p * mny p) (mem_gaps.mpr ⟨0, hm, gap_0 p⟩) (fun y hy => ?_) ?_⟩
      · obtain ⟨k, hk, rfl⟩ := mem_gaps.mp hy
        exact (gap_le okp hk).2
      walk_at "dd"
      refine ⟨g2.cm f4, f3.cm bz, f4.cm bm, ?_⟩
      rw [e1, hdr, e2, hr]
      exact ⟨_, _, _, _, _, _, _, rfl⟩
  · rintro s2 ⟨x6, x7, x8, x9, x10, x11, xs, rfl⟩
    walk_at "dd"
    rw [List.length_reverse, show (rgD 0 (row.length : Int)).length = row.length by unfold rgD; simp, Nat.sub_self, List.drop_zero]
    exact h

end DL

/-! part M8 -/
namespace DL
open PySem PySem.Spec PyProof.Rows L2
local macro_rules | `(tactic| walk_at "dd") => `(tactic| simp only [↓e_seq, ↓e_next, ↓e_never, ↓e_ifs, ↓e_ret, ↓e_retN, ↓e_drop, ↓e_brk, ↓e_ct, ↓e_set, ↓e_setF, ↓e_par, ↓e_par3, ↓e_aug, ↓e_asg, ↓e_gNm, ↓e_gTp, ↓e_gsNil, ↓e_gsCons, ↓e_app, ↓e_setIx, ↓e_retM, ↓e_for, ↓e_var, ↓e_VGv, ↓e_VGo, ↓e_peek, ↓e_PG, ↓pk_int, ↓pk_bl, ↓pk_non, ↓pk_str, ↓pk_lst, ↓pk_tup, ↓pk_scr, ↓pk_own, ↓e_AGo, ↓e_AGh, ↓e_HG, ↓e_JG, ↓e_C, ↓e_bin, ↓e_b, ↓e_BG, ↓e_IG, ↓e_chn, ↓e_and, ↓e_or, ↓e_not, ↓e_andV, ↓e_orV, ↓e_notV, ↓e_if, ↓e_tru, ↓tg_bl, ↓tg_int, ↓tg_non, ↓tg_lst, ↓tg_tup, ↓e_nil, ↓e_cons, ↓e_tup, ↓e_lst, ↓lg_0, ↓lg_1, ↓lg_2, ↓lg_3, ↓lg_4, ↓lg_5, ↓lg_6, ↓lg_7, ↓lg_8, ↓lg_9, ↓lg_10, ↓lg_11, ↓lg_12, ↓lg_13, ↓lg_14, ↓lg_15, ↓lg_16, ↓e_fz, ↓e_one, ↓e_oneF, ↓e_ixN, ↓e_neg, ↓e_is, ↓yg_int_int, ↓yg_int_bl, ↓yg_int_non, ↓yg_int_str, ↓yg_int_lst, ↓yg_int_tup, ↓yg_bool_int, ↓yg_bool_bl, ↓yg_bool_non, ↓yg_bool_str, ↓yg_bool_lst, ↓yg_bool_tup, ↓yg_tuple_int, ↓yg_tuple_bl, ↓yg_tuple_non, ↓yg_tuple_str, ↓yg_tuple_lst, ↓yg_tuple_tup, ↓yg_list_int, ↓yg_list_bl, ↓yg_list_non, ↓yg_list_str, ↓yg_list_lst, ↓yg_list_tup, ↓yg_str_int, ↓yg_str_bl, ↓yg_str_non, ↓yg_str_str, ↓yg_str_lst, ↓yg_str_tup, ↓e_call, ↓e_callK, ↓e_isN, ↓e_items, ↓sg_lst, ↓sg_tup, ↓sg_scr, ↓e_slN, ↓e_sl, ↓e_oNone, ↓e_oSome, ↓e_yes, ↓e_lc, ↓e_rng1, ↓e_RG1, ↓e_rng2, ↓e_RG2, ↓e_revRng, ↓e_zip, ↓zg_tup, ↓zg_lst, ↓e_revF, ↓e_lstRg, ↓o_add_i, ↓o_add_b, ↓o_add_t, ↓o_add_l, ↓o_sub, ↓o_mul, ↓o_mul_l, ↓o_div, ↓o_mod, ↓o_pow, ↓o_lt, ↓o_le, ↓o_gt, ↓o_ge, ↓o_eq_i, ↓o_ne_i, ↓o_ix_t, ↓o_ix_l, ↓o_ix_s, ↓o_len_t, ↓o_len_l, ↓o_len_s, ↓o_abs, ↓o_int_i, ↓o_int_b, ↓o_tuple, ↓o_list, ↓o_sum_t, ↓o_sum_l, ↓o_gcd, ↓o_divmod, ↓o_isB, ↓o_notB, ↓o_sl_t, ↓o_sl_l, ↓o_rev_l, ↓o_all, ↓o_any, ↓e_put, ↓pk_mset, ↓mset_s, ↓ix_1_0, ↓ix_2_0, ↓ix_2_1, ↓ix_3_0, ↓ix_3_1, ↓ix_3_2, ↓ix_4_0, ↓ix_4_1, ↓ix_4_2, ↓ix_4_3, ↓ix_5_0, ↓ix_5_1, ↓ix_5_2, ↓ix_5_3, ↓ix_5_4, ↓ix_6_0, ↓ix_6_1, ↓ix_6_2, ↓ix_6_3, ↓ix_6_4, ↓ix_6_5, ↓ix_7_0, ↓ix_7_1, ↓ix_7_2, ↓ix_7_3, ↓ix_7_4, ↓ix_7_5, ↓ix_7_6,
  List.length_cons, List.length_nil, List.map_cons, List.map_nil, List.cons_append, List.nil_append, List.append_nil, List.replicate_succ, List.replicate_zero, Nat.reduceSub, Nat.reduceAdd, Nat.reduceLeDiff, Nat.reduceEqDiff, wipeL, List.set_nil, List.set_cons_zero, List.set_cons_succ, List.getElem?_cons_zero, List.getElem?_cons_succ, List.filterMap_cons, List.filterMap_nil, startL, atI_c0, atI_c1, atI_c2, atI_c3, b2i, Option.some.injEq, D.int.injEq, D.bl.injEq, D.tup.injEq, D.lst.injEq, D.str.injEq, List.cons.injEq, and_true, true_and, and_assoc, ↓reduceIte, Bool.false_eq_true, Bool.not_true, Bool.not_false, if_true, if_false, decide_true, decide_false, Int.cast_ofNat_Int, Int.natCast_one, Int.natCast_zero, Int.reduceBEq, beq_self_eq_true, Int.reduceNeg, Int.reduceLT, Int.reduceLE, isNonB, noH, nT, Bool.true_and, Bool.false_and])

/-! ### digits -/
def undig (b : Nat) : List Nat → Nat → Nat
  | [], s => s
  | d :: ds, s => undig b ds (s * b + d + 1)
theorem undig_app (b : Nat) : ∀ (ds es : List Nat) (s : Nat), undig b (ds ++ es) s = undig b es (undig b ds s)
  | [], _, _ => rfl
  | d :: ds, es, s => by
    show undig b (ds ++ es) _ = undig b es (undig b ds _)
    exact undig_app b ds es _
theorem undig_le {b : Nat} (hb : b ≤ 256) : ∀ (ds : List Nat) (s : Nat), (∀ d ∈ ds, d < b) → undig b ds s + 1 ≤ 512 ^ ds.length * (s + 1)
  | [], s, _ => by show s + 1 ≤ 1 * (s + 1); omega
  | d :: ds, s, h => by
    have h1 := undig_le hb ds (s * b + d + 1) fun x hx => h x (List.mem_cons_of_mem _ hx)
    have h2 := h d (by simp)
    have h3 : s * b ≤ s * 256 := Nat.mul_le_mul_left _ hb
    rw [List.length_cons, Nat.pow_succ, Nat.mul_assoc]
    exact Nat.le_trans h1 (Nat.mul_le_mul_left _ (by omega))
theorem undig_ge {b : Nat} (hb : 2 ≤ b) : ∀ (ds : List Nat) (s : Nat), 2 ^ ds.length * (s + 1) ≤ undig b ds s + 1
  | [], s => by show 1 * (s + 1) ≤ s + 1; omega
  | d :: ds, s => by
    have h1 := undig_ge hb ds (s * b + d + 1)
    have h3 : s * 2 ≤ s * b := Nat.mul_le_mul_left _ hb
    rw [List.length_cons, Nat.pow_succ, Nat.mul_assoc]
    exact Nat.le_trans (Nat.mul_le_mul_left _ (by omega)) h1
theorem dig_ex {b : Nat} (hb : 2 ≤ b) (n : Nat) : ∃ ds : List Nat, (∀ d ∈ ds, d < b) ∧ undig b ds 0 = n := by
  induction n using Nat.strongRecOn with
  | _ n ih =>
    by_cases h0 : n = 0
    · exact ⟨[], by simp, h0.symm⟩
    · obtain ⟨ds, h1, h2⟩ := ih ((n - 1) / b) (Nat.lt_of_le_of_lt (Nat.div_le_self _ _) (by omega))
      refine ⟨ds ++ [(n - 1) % b], fun d hd => ?_, ?_⟩
      · rcases List.mem_append.mp hd with h | h
        · exact h1 d h
        · rw [List.mem_singleton.mp h]
          exact Nat.mod_lt _ (by omega)
      · rw [undig_app, h2]
        show (n - 1) / b * b + (n - 1) % b + 1 = n
        have := Nat.div_add_mod (n - 1) b
        rw [Nat.mul_comm] at this
        omega
theorem undig_lt {b a : Nat} {ds : List Nat} {s : Nat} (hb : b ≤ 256) (h : ∀ d ∈ ds, d < b) (hl : ds.length ≤ 1000) (hs : Lt a (s : Int)) : Lt (9000 + a) ((undig b ds s : Nat) : Int) := by
  have h1 := undig_le hb ds s h
  show undig b ds s < 2 ^ (9000 + a)
  have e : (512 : Nat) ^ ds.length = 2 ^ (9 * ds.length) := by rw [Nat.pow_mul]
  rw [e] at h1
  have hs : s + 1 ≤ 2 ^ a := hs
  have h2 : 2 ^ (9 * ds.length) * (s + 1) ≤ 2 ^ 9000 * 2 ^ a := Nat.mul_le_mul (Nat.pow_le_pow_right (by decide) (by omega)) hs
  rw [Nat.pow_add]
  omega
theorem lt9 {b : Nat} (h : b ≤ 256) : Lt 9 (b : Int) := by
  show b < 2 ^ 9
  omega
theorem take_snoc {α : Type} {l : List α} {k : Nat} (h : k < l.length) : l.take (k + 1) = l.take k ++ [l[k]] := List.take_succ_eq_append_getElem h
theorem undig_step {b : Nat} {ds : List Nat} {s k : Nat} (hk : k < ds.length) (hd : ∀ d ∈ ds, d < b) : undig b (ds.take (k + 1)) s = undig b (ds.take k) s * b + ds[k] + 1 ∧ (undig b (ds.take (k + 1)) s - 1) % b = ds[k] ∧ (undig b (ds.take (k + 1)) s - 1) / b = undig b (ds.take k) s := by
  have e : undig b (ds.take (k + 1)) s = undig b (ds.take k) s * b + ds[k] + 1 := by
    rw [take_snoc hk, undig_app]
    rfl
  have hlt := hd _ (List.getElem_mem hk)
  refine ⟨e, ?_, ?_⟩
  · rw [e, Nat.add_sub_cancel, Nat.mul_comm, Nat.mul_add_mod, Nat.mod_eq_of_lt hlt]
  · rw [e, Nat.add_sub_cancel, Nat.mul_comm, Nat.mul_add_div (by omega), Nat.div_eq_of_lt hlt, Nat.add_zero]
theorem rev_step {ds : List Nat} {k : Nat} (hk : k < ds.length) : nL (ds.drop (k + 1)).reverse ++ [.int ((ds[k] : Nat) : Int)] = nL (ds.drop k).reverse := by
  rw [List.drop_eq_getElem_cons hk, List.reverse_cons, nL_app]
  rfl
theorem nL_rev (ds : List Nat) : (nL ds).reverse = nL ds.reverse := by unfold nL; rw [List.map_reverse]
theorem is_base_ok {b : Nat} (h : 2 ≤ b ∧ b ≤ 256) : (2 : Int) ≤ (b : Int) ∧ (b : Int) ≤ 256 := by omega
structure DgOk (b : Nat) (ds : List Nat) : Prop where
  hb : 2 ≤ b ∧ b ≤ 256
  hd : ∀ d ∈ ds, d < b
  hl : ds.length ≤ 1000
theorem DgOk.z {b : Nat} {ds : List Nat} (h : DgOk b ds) : ∀ n ∈ ds, (n : Int) < (b : Int) := fun n hn => by have := h.hd n hn; omega
theorem sub1 {n : Nat} (h : 0 < n) : ((n : Nat) : Int) - 1 = ((n - 1 : Nat) : Int) := by omega
def sp_row_of : DSp := fun ds m Q => ∃ (b : Nat) (es : List Nat), ds = [.int b, .int (undig b es 0 : Nat)] ∧ DgOk b es ∧ Q (nT es) m
theorem ln_row_of : ∀ ds m Qd, sp_row_of ds m Qd → ds.length = 2 := by
  rintro ds m Qd ⟨b, es, rfl, _⟩
  rfl
theorem rd_row_of : ∀ ds m Qd, sp_row_of ds m Qd → R_row_of sp_a_want sp_is_base sp_is_number { nx := fun s => Qd .non s.m, rt := Qd } ⟨m, startL 4 ds⟩ := by
  rintro ds m Qd ⟨b, es, rfl, ok, h⟩
  unfold R_row_of
  have hb := ok.hb
  have hb0 : (b : Int) ≠ 0 := by omega
  walk_at "dd"
  simp only [sp_is_base, sp_is_number, decide_eq_true (Int.natCast_nonneg (undig b es 0)), sp_a_want]
  refine ⟨is_base_ok hb, fun n s => ∃ k, k ≤ es.length ∧ n = k ∧ s = ⟨m, [.val (.int b), .val (.int (undig b es 0 : Nat)), .own (nL (es.drop k).reverse), .val (.int (undig b (es.take k) 0 : Nat))]⟩, ⟨_, es.length, Nat.le_refl _, rfl, ?_⟩, ?_⟩
  · rw [List.drop_length, List.take_length]
    rfl
  · rintro n s1 ⟨k, hk, rfl, rfl⟩
    walk_at "dd"
    cases n with
    | zero =>
      rw [List.take_zero, List.drop_zero]
      rw [decide_eq_false (show ¬ (0 : Int) < ((undig b [] 0 : Nat) : Int) from Int.lt_irrefl 0)]
      walk_at "dd"
      rw [nL_rev, List.reverse_reverse]
      exact h
    | succ k =>
      obtain ⟨e1, e2, e3⟩ := undig_step (s := 0) (Nat.lt_of_succ_le hk) ok.hd
      have hp : 0 < undig b (es.take (k + 1)) 0 := by omega
      rw [decide_eq_true (show (0 : Int) < ((undig b (es.take (k + 1)) 0 : Nat) : Int) by omega)]
      walk_at "dd"
      refine ⟨hb0, ?_, cdz (by omega) (small13 (by omega)), k, Nat.lt_succ_self k, ?_⟩
      · rw [nL_len, List.length_reverse, List.length_drop]
        exact lt_line (by have := ok.hl; omega)
      · rw [sub1 hp, fmod_nat, fdiv_nat, e2, e3, rev_step (Nat.lt_of_succ_le hk)]
        exact ⟨k, by omega, rfl, rfl⟩
def sp_added : DSp := fun ds m Q => ∃ (b s : Nat) (es : List Nat), ds = [.int b, .int s, nT es] ∧ DgOk b es ∧ Lt 20000 (s : Int) ∧ Q (.int (undig b es s : Nat)) m
theorem ln_added : ∀ ds m Qd, sp_added ds m Qd → ds.length = 3 := by
  rintro ds m Qd ⟨b, s, es, rfl, _⟩
  rfl
theorem rd_added : ∀ ds m Qd, sp_added ds m Qd → R_added sp_a_want sp_is_base sp_is_number sp_is_digits { nx := fun s => Qd .non s.m, rt := Qd } ⟨m, startL 5 ds⟩ := by
  rintro ds m Qd ⟨b, s, es, rfl, ok, hs, h⟩
  unfold R_added
  have hb := ok.hb
  walk_at "dd"
  simp only [sp_is_base, sp_is_number, decide_eq_true (Int.natCast_nonneg s), sp_a_want, sp_is_digits]
  refine ⟨is_base_ok hb, es, rfl, is_base_ok hb, by have := ok.hl; omega, ok.z, ?_⟩
  refine ⟨fun i st => ∃ x, st = ⟨m, [.val (.int b), .val (.int s), .val (nT es), .val (.int (undig b (es.take i) s : Nat)), x]⟩, ⟨.no, rfl⟩, ?_, ?_⟩
  · rintro i d s2 hd ⟨x, rfl⟩
    obtain ⟨hi, rfl⟩ := nL_at hd
    walk_at "dd"
    have hl := ok.hl
    have hu := undig_lt hb.2 (fun d hd => ok.hd d (List.mem_of_mem_take hd)) (show (es.take i).length ≤ 1000 by rw [List.length_take]; omega) hs
    refine ⟨hu.cm (lt9 hb.2), ?_⟩
    have e1 := (undig_step (s := s) hi ok.hd).1
    have e2 : es.getD i 0 = es[i] := by unfold List.getD; rw [List.getElem?_eq_getElem hi]; rfl
    rw [e1, e2]
    exact ⟨_, rfl⟩
  · rintro s2 ⟨x, rfl⟩
    walk_at "dd"
    rw [nL_len, List.take_length]
    exact h
def sp_stack_of : DSp := fun ds m Q => ∃ (b : Nat) (es : List Nat), ds = [.int b, nT es] ∧ DgOk b es ∧ Q (.int (undig b es 0 : Nat)) m
theorem ln_stack_of : ∀ ds m Qd, sp_stack_of ds m Qd → ds.length = 2 := by
  rintro ds m Qd ⟨b, es, rfl, _⟩
  rfl
theorem rd_stack_of : ∀ ds m Qd, sp_stack_of ds m Qd → R_stack_of sp_a_want sp_is_base sp_is_digits sp_added { nx := fun s => Qd .non s.m, rt := Qd } ⟨m, startL 2 ds⟩ := by
  rintro ds m Qd ⟨b, es, rfl, ok, h⟩
  unfold R_stack_of
  have hb := ok.hb
  walk_at "dd"
  simp only [sp_is_base, sp_a_want, sp_is_digits]
  refine ⟨is_base_ok hb, es, rfl, is_base_ok hb, by have := ok.hl; omega, ok.z, ?_⟩
  exact ⟨b, 0, es, rfl, ok, Lt.zero, h⟩
def sp_taken : DSp := fun ds m Q => ∃ (b s : Nat) (es : List Nat), ds = [.int b, .int (undig b es s : Nat), .int (es.length : Nat)] ∧ DgOk b es ∧ Q (.tup [nT es, .int s]) m
theorem ln_taken : ∀ ds m Qd, sp_taken ds m Qd → ds.length = 3 := by
  rintro ds m Qd ⟨b, s, es, rfl, _⟩
  rfl
theorem rd_taken : ∀ ds m Qd, sp_taken ds m Qd → R_taken sp_a_want sp_is_base sp_is_number { nx := fun s => Qd .non s.m, rt := Qd } ⟨m, startL 5 ds⟩ := by
  rintro ds m Qd ⟨b, s, es, rfl, ok, h⟩
  unfold R_taken
  have hb := ok.hb
  have hb0 : (b : Int) ≠ 0 := by omega
  walk_at "dd"
  simp only [sp_is_base, sp_is_number, decide_eq_true (Int.natCast_nonneg _), sp_a_want]
  refine ⟨is_base_ok hb, fun n st => ∃ k, k ≤ es.length ∧ n = k ∧ st = ⟨m, [.val (.int b), .val (.int (undig b es s : Nat)), .val (.int (es.length : Nat)), .own (nL (es.drop k).reverse), .val (.int (undig b (es.take k) s : Nat))]⟩, ⟨_, es.length, Nat.le_refl _, rfl, ?_⟩, ?_⟩
  · rw [List.drop_length, List.take_length]
    rfl
  · rintro n s1 ⟨k, hk, rfl, rfl⟩
    walk_at "dd"
    rw [nL_len, List.length_reverse, List.length_drop, dlt]
    cases n with
    | zero =>
      rw [decide_eq_false (by omega)]
      walk_at "dd"
      rw [nL_rev, List.reverse_reverse, List.drop_zero, List.take_zero]
      exact h
    | succ k =>
      obtain ⟨e1, e2, e3⟩ := undig_step (s := s) (Nat.lt_of_succ_le hk) ok.hd
      have hp : 0 < undig b (es.take (k + 1)) s := by omega
      rw [decide_eq_true (by omega)]
      walk_at "dd"
      rw [show (((undig b (es.take (k + 1)) s : Nat) : Int) == 0) = false from beq_false_of_ne (by omega)]
      walk_at "dd"
      refine ⟨hb0, ?_, cdz (by omega) (small13 (by omega)), k, Nat.lt_succ_self k, ?_⟩
      · exact lt_line (by have := ok.hl; omega)
      · rw [sub1 hp, fmod_nat, fdiv_nat, e2, e3, rev_step (Nat.lt_of_succ_le hk)]
        exact ⟨k, by omega, rfl, rfl⟩

end DL

/-! part M9 -/
namespace DL
open PySem PySem.Spec PyProof.Rows L2
local macro_rules | `(tactic| walk_at "dd") => `(tactic| simp only [↓e_seq, ↓e_next, ↓e_never, ↓e_ifs, ↓e_ret, ↓e_retN, ↓e_drop, ↓e_brk, ↓e_ct, ↓e_set, ↓e_setF, ↓e_par, ↓e_par3, ↓e_aug, ↓e_asg, ↓e_gNm, ↓e_gTp, ↓e_gsNil, ↓e_gsCons, ↓e_app, ↓e_setIx, ↓e_retM, ↓e_for, ↓e_var, ↓e_VGv, ↓e_VGo, ↓e_peek, ↓e_PG, ↓pk_int, ↓pk_bl, ↓pk_non, ↓pk_str, ↓pk_lst, ↓pk_tup, ↓pk_scr, ↓pk_own, ↓e_AGo, ↓e_AGh, ↓e_HG, ↓e_JG, ↓e_C, ↓e_bin, ↓e_b, ↓e_BG, ↓e_IG, ↓e_chn, ↓e_and, ↓e_or, ↓e_not, ↓e_andV, ↓e_orV, ↓e_notV, ↓e_if, ↓e_tru, ↓tg_bl, ↓tg_int, ↓tg_non, ↓tg_lst, ↓tg_tup, ↓e_nil, ↓e_cons, ↓e_tup, ↓e_lst, ↓lg_0, ↓lg_1, ↓lg_2, ↓lg_3, ↓lg_4, ↓lg_5, ↓lg_6, ↓lg_7, ↓lg_8, ↓lg_9, ↓lg_10, ↓lg_11, ↓lg_12, ↓lg_13, ↓lg_14, ↓lg_15, ↓lg_16, ↓e_fz, ↓e_one, ↓e_oneF, ↓e_ixN, ↓e_neg, ↓e_is, ↓yg_int_int, ↓yg_int_bl, ↓yg_int_non, ↓yg_int_str, ↓yg_int_lst, ↓yg_int_tup, ↓yg_bool_int, ↓yg_bool_bl, ↓yg_bool_non, ↓yg_bool_str, ↓yg_bool_lst, ↓yg_bool_tup, ↓yg_tuple_int, ↓yg_tuple_bl, ↓yg_tuple_non, ↓yg_tuple_str, ↓yg_tuple_lst, ↓yg_tuple_tup, ↓yg_list_int, ↓yg_list_bl, ↓yg_list_non, ↓yg_list_str, ↓yg_list_lst, ↓yg_list_tup, ↓yg_str_int, ↓yg_str_bl, ↓yg_str_non, ↓yg_str_str, ↓yg_str_lst, ↓yg_str_tup, ↓e_call, ↓e_callK, ↓e_isN, ↓e_items, ↓sg_lst, ↓sg_tup, ↓sg_scr, ↓e_slN, ↓e_sl, ↓e_oNone, ↓e_oSome, ↓e_yes, ↓e_lc, ↓e_rng1, ↓e_RG1, ↓e_rng2, ↓e_RG2, ↓e_revRng, ↓e_zip, ↓zg_tup, ↓zg_lst, ↓e_revF, ↓e_lstRg, ↓o_add_i, ↓o_add_b, ↓o_add_t, ↓o_add_l, ↓o_sub, ↓o_mul, ↓o_mul_l, ↓o_div, ↓o_mod, ↓o_pow, ↓o_lt, ↓o_le, ↓o_gt, ↓o_ge, ↓o_eq_i, ↓o_ne_i, ↓o_ix_t, ↓o_ix_l, ↓o_ix_s, ↓o_len_t, ↓o_len_l, ↓o_len_s, ↓o_abs, ↓o_int_i, ↓o_int_b, ↓o_tuple, ↓o_list, ↓o_sum_t, ↓o_sum_l, ↓o_gcd, ↓o_divmod, ↓o_isB, ↓o_notB, ↓o_sl_t, ↓o_sl_l, ↓o_rev_l, ↓o_all, ↓o_any, ↓e_put, ↓pk_mset, ↓mset_s, ↓ix_1_0, ↓ix_2_0, ↓ix_2_1, ↓ix_3_0, ↓ix_3_1, ↓ix_3_2, ↓ix_4_0, ↓ix_4_1, ↓ix_4_2, ↓ix_4_3, ↓ix_5_0, ↓ix_5_1, ↓ix_5_2, ↓ix_5_3, ↓ix_5_4, ↓ix_6_0, ↓ix_6_1, ↓ix_6_2, ↓ix_6_3, ↓ix_6_4, ↓ix_6_5, ↓ix_7_0, ↓ix_7_1, ↓ix_7_2, ↓ix_7_3, ↓ix_7_4, ↓ix_7_5, ↓ix_7_6,
  List.length_cons, List.length_nil, List.map_cons, List.map_nil, List.cons_append, List.nil_append, List.append_nil, List.replicate_succ, List.replicate_zero, Nat.reduceSub, Nat.reduceAdd, Nat.reduceLeDiff, Nat.reduceEqDiff, wipeL, List.set_nil, List.set_cons_zero, List.set_cons_succ, List.getElem?_cons_zero, List.getElem?_cons_succ, List.filterMap_cons, List.filterMap_nil, startL, atI_c0, atI_c1, atI_c2, atI_c3, b2i, Option.some.injEq, D.int.injEq, D.bl.injEq, D.tup.injEq, D.lst.injEq, D.str.injEq, List.cons.injEq, and_true, true_and, and_assoc, ↓reduceIte, Bool.false_eq_true, Bool.not_true, Bool.not_false, if_true, if_false, decide_true, decide_false, Int.cast_ofNat_Int, Int.natCast_one, Int.natCast_zero, Int.reduceBEq, beq_self_eq_true, Int.reduceNeg, Int.reduceLT, Int.reduceLE, isNonB, noH, nT, Bool.true_and, Bool.false_and])

/-! ### counting by powers -/
theorem want_tt {d : D} {m : M} {Q : D → M → Prop} : sp_a_want [.bl true, d] m Q = Q .non m := rfl
def Plc (b n k : Nat) : Prop := n < b ^ k ∧ ∀ j, j < k → b ^ j ≤ n
def Rch (b : Nat) (x y : Int) (k : Nat) : Prop := x ≤ y * ((b ^ k : Nat) : Int) ∧ ∀ j, j < k → y * ((b ^ j : Nat) : Int) < x
theorem Rch.uniq {b : Nat} {x y : Int} {i k : Nat} (h1 : Rch b x y i) (h2 : Rch b x y k) : i = k := by
  rcases Nat.lt_trichotomy i k with h | h | h
  · have := h2.2 i h
    have := h1.1
    omega
  · exact h
  · have := h1.2 k h
    have := h2.1
    omega
theorem Rch.red {b : Nat} {x y g : Int} {k : Nat} (hg : 0 < g) : Rch b (g * x) (g * y) k ↔ Rch b x y k := by
  unfold Rch
  have e : ∀ j : Nat, g * y * ((b ^ j : Nat) : Int) = g * (y * ((b ^ j : Nat) : Int)) := fun j => Int.mul_assoc _ _ _
  simp only [e]
  constructor
  · rintro ⟨h1, h2⟩
    exact ⟨(Int.mul_le_mul_left hg).mp h1, fun j hj => (Int.mul_lt_mul_left hg).mp (h2 j hj)⟩
  · rintro ⟨h1, h2⟩
    exact ⟨(Int.mul_le_mul_left hg).mpr h1, fun j hj => (Int.mul_lt_mul_left hg).mpr (h2 j hj)⟩
theorem pow_step (b i : Nat) (y : Int) : y * ((b ^ i : Nat) : Int) * (b : Int) = y * ((b ^ (i + 1) : Nat) : Int) := by
  rw [Nat.pow_succ, Int.natCast_mul, Int.mul_assoc]
def sp_places_of : DSp := fun ds m Q => ∃ b n k : Nat, ds = [.int b, .int n] ∧ (2 ≤ b ∧ b ≤ 256) ∧ Plc b n k ∧ Q (.int k) m
theorem ln_places_of : ∀ ds m Qd, sp_places_of ds m Qd → ds.length = 2 := by
  rintro ds m Qd ⟨b, n, k, rfl, _⟩
  rfl
theorem rd_places_of : ∀ ds m Qd, sp_places_of ds m Qd → R_places_of sp_a_want sp_is_base sp_is_number { nx := fun s => Qd .non s.m, rt := Qd } ⟨m, startL 4 ds⟩ := by
  rintro ds m Qd ⟨b, n, k, rfl, hb, hp, h⟩
  unfold R_places_of
  walk_at "dd"
  simp only [sp_is_base, sp_is_number, decide_eq_true (Int.natCast_nonneg n), sp_a_want]
  refine ⟨is_base_ok hb, fun v s => ∃ i : Nat, (∀ j, j < i → b ^ j ≤ n) ∧ v = n / b ^ i ∧ s = ⟨m, [.val (.int b), .val (.int n), .val (.int i), .val (.int (n / b ^ i : Nat))]⟩, ⟨_, 0, fun j hj => by omega, rfl, ?_⟩, ?_⟩
  · rw [Nat.pow_zero, Nat.div_one]
    rfl
  · rintro v s1 ⟨i, hi, rfl, rfl⟩
    have hbi : 0 < b ^ i := Nat.pow_pos (by omega)
    walk_at "dd"
    by_cases hc : b ^ i ≤ n
    · have hq : 0 < n / b ^ i := Nat.div_pos hc hbi
      rw [decide_eq_true (show (0 : Int) < ((n / b ^ i : Nat) : Int) by omega)]
      walk_at "dd"
      refine ⟨cdz (by omega) (small13 (by omega)), _, ?_, i + 1, fun j hj => ?_, rfl, ?_⟩
      · rw [Nat.pow_succ, ← Nat.div_div_eq_div_mul]
        exact Nat.div_lt_self hq hb.1
      · rcases Nat.lt_or_ge j i with h1 | h1
        · exact hi j h1
        · rw [show j = i by omega]
          exact hc
      · rw [fdiv_nat, Nat.div_div_eq_div_mul, ← Nat.pow_succ]
        rfl
    · have hq : n / b ^ i = 0 := Nat.div_eq_of_lt (by omega)
      rw [hq]
      rw [decide_eq_false (show ¬ (0 : Int) < ((0 : Nat) : Int) by decide)]
      walk_at "dd"
      have : i = k := by
        rcases Nat.lt_trichotomy i k with h1 | h1 | h1
        · exact absurd (hp.2 i h1) hc
        · exact h1
        · have := hi k h1
          have := hp.1
          omega
      rw [this]
      exact h
def sp_reach_of : DSp := fun ds m Q => ∃ (b k : Nat) (x y : Int), ds = [.int b, Q2 x y] ∧ (2 ≤ b ∧ b ≤ 256) ∧ (0 < x ∧ 0 < y) ∧ Lt 8000 x ∧ Rch b x y k ∧ Q (.int k) m
theorem ln_reach_of : ∀ ds m Qd, sp_reach_of ds m Qd → ds.length = 2 := by
  rintro ds m Qd ⟨b, k, x, y, rfl, _⟩
  rfl
theorem rd_reach_of : ∀ ds m Qd, sp_reach_of ds m Qd → R_reach_of sp_a_want sp_is_base sp_is_quotient { nx := fun s => Qd .non s.m, rt := Qd } ⟨m, startL 4 ds⟩ := by
  rintro ds m Qd ⟨b, k, x, y, rfl, hb, ⟨hx, hy⟩, lx, hp, h⟩
  unfold R_reach_of
  obtain ⟨z, w, g, hg, ex, ey, hzw, hw, e1⟩ := q2_cases (a := x) hy
  have lz := lx.le (part_le hg ex)
  have hz : 0 < z := pos_of_mul hg (by rw [← ex]; exact hx)
  rw [ex, ey, Rch.red hg] at hp
  rw [e1]
  walk_at "dd"
  simp only [sp_is_base, sp_is_quotient, want_tt]
  refine ⟨is_base_ok hb, ⟨hw, hzw⟩, ?_⟩
  walk_at "dd"
  rw [decide_eq_true hz, want_tt]
  try walk_at "dd"
  refine ⟨fun v s => ∃ i : Nat, (∀ j, j < i → w * ((b ^ j : Nat) : Int) < z) ∧ v = (z - w * ((b ^ i : Nat) : Int)).toNat ∧ s = ⟨m, [.val (.int b), .val (.tup [.int z, .int w]), .val (.int i), .val (.int (w * ((b ^ i : Nat) : Int)))]⟩, ⟨_, 0, fun j hj => by omega, rfl, ?_⟩, ?_⟩
  · rw [Nat.pow_zero]
    show _ = S.mk m [_, _, _, .val (.int (w * 1))]
    rw [Int.mul_one]
    rfl
  · rintro v s1 ⟨i, hi, rfl, rfl⟩
    have hbi : 0 < b ^ i := Nat.pow_pos (by omega)
    walk_at "dd"
    by_cases hc : w * ((b ^ i : Nat) : Int) < z
    · rw [decide_eq_true hc]
      have hp0 : 0 < w * ((b ^ i : Nat) : Int) := Int.mul_pos hw (by omega)
      have hst := pow_step b i w
      have hgt : w * ((b ^ i : Nat) : Int) * 2 ≤ w * ((b ^ i : Nat) : Int) * (b : Int) := Int.mul_le_mul_of_nonneg_left (by omega) (Int.le_of_lt hp0)
      walk_at "dd"
      refine ⟨(lz.le (by omega)).cm (lt9 hb.2), _, ?_, i + 1, fun j hj => ?_, rfl, ?_⟩
      · rw [← hst]
        omega
      · rcases Nat.lt_or_ge j i with h1 | h1
        · exact hi j h1
        · rw [show j = i by omega]
          exact hc
      · rw [hst]
        rfl
    · rw [decide_eq_false hc]
      walk_at "dd"
      rw [Rch.uniq (b := b) ⟨by omega, hi⟩ hp]
      exact h

theorem eq_self {d : D} {q : D → Prop} (h : d.ok 60 = true) (hq : q (.bl true)) : dEq d d q := ⟨h, h, by rw [eqd_self h]; exact hq⟩
theorem ne_self {d : D} {q : D → Prop} (h : d.ok 60 = true) (hq : q (.bl false)) : dNe d d q := ⟨h, h, by rw [eqd_self h]; exact hq⟩
theorem rep_eq {d : D} {q : D → Prop} (h : d.pl 60 = true) (hq : q (.bl true)) : dEq (.str (rep d)) (.str (rep d)) q := eq_self (rep_so d (pl_ok d 60 h).2.2) hq
theorem rep_ne {d : D} {q : D → Prop} (h : d.pl 60 = true) (hq : q (.bl false)) : dNe (.str (rep d)) (.str (rep d)) q := ne_self (rep_so d (pl_ok d 60 h).2.2) hq
theorem repr_pl {d : D} {q : D → Prop} (h : d.pl 60 = true) (hs : d.sz ≤ 16000000) (hq : q (.str (rep d))) : dRepr d q := ⟨(pl_ok d 60 h).1, (pl_ok d 60 h).2.1, hs, hq⟩
theorem int_pl {i : Int} (h : Lt 1920 i) (n : Nat) : (D.int i).pl n = true := decide_eq_true (h.log (by decide))
theorem rch_small {b k : Nat} {x y : Int} (hb : 2 ≤ b) (hy : 0 < y) (lx : Lt 8000 x) (h : Rch b x y k) : k ≤ 8000 := by
  cases k with
  | zero => omega
  | succ k =>
    have h1 := h.2 k (Nat.lt_succ_self k)
    have h2 : ((b ^ k : Nat) : Int) ≤ y * ((b ^ k : Nat) : Int) := by
      have := Int.mul_le_mul_of_nonneg_right (show (1 : Int) ≤ y by omega) (Int.natCast_nonneg (b ^ k))
      omega
    have h3 : 2 ^ k ≤ b ^ k := Nat.pow_le_pow_left hb k
    have h4 : 2 ^ k < 2 ^ 8000 := by
      have : x.natAbs < 2 ^ 8000 := lx
      omega
    have := (Nat.pow_lt_pow_iff_right (by decide : 1 < 2)).mp h4
    omega
theorem nat_lt (k : Nat) {a : Nat} (h : k ≤ 100000) (ha : 20 ≤ a := by decide) : Lt a (k : Int) := by
  refine Lt.up (a := 20) ?_ ha
  show k < 2 ^ 20
  omega
def sp_Ulaw_is_long : DSp := fun ds m Q => ∃ (b k : Nat) (x y : Int), ds = [.int b, Q2 x y, .int k] ∧ (2 ≤ b ∧ b ≤ 256) ∧ (0 < x ∧ 0 < y) ∧ Lt 8000 x ∧ Rch b x y k ∧ Q (.bl true) m
theorem ln_Ulaw_is_long : ∀ ds m Qd, sp_Ulaw_is_long ds m Qd → ds.length = 3 := by
  rintro ds m Qd ⟨b, k, x, y, rfl, _⟩
  rfl
theorem rd_Ulaw_is_long : ∀ ds m Qd, sp_Ulaw_is_long ds m Qd → R_Ulaw_is_long { nx := fun s => Qd .non s.m, rt := Qd } ⟨m, startL 5 ds⟩ := by
  rintro ds m Qd ⟨b, k, x, y, rfl, hb, ⟨hx, hy⟩, lx, hp, h⟩
  unfold R_Ulaw_is_long
  have hk := rch_small hb.1 hy lx hp
  obtain ⟨z, w, g, hg, ex, ey, hzw, hw, e1⟩ := q2_cases (a := x) hy
  have lz := lx.le (part_le hg ex)
  have hz : 0 < z := pos_of_mul hg (by rw [← ex]; exact hx)
  rw [ex, ey, Rch.red hg] at hp
  rw [e1]
  walk_at "dd"
  refine ⟨fun v s => ∃ i : Nat, (∀ j, j < i → w * ((b ^ j : Nat) : Int) < z) ∧ v = (z - w * ((b ^ i : Nat) : Int)).toNat ∧ s = ⟨m, [.val (.int b), .val (.tup [.int z, .int w]), .val (.int k), .val (.int i), .val (.int (w * ((b ^ i : Nat) : Int)))]⟩, ⟨_, 0, fun j hj => by omega, rfl, ?_⟩, ?_⟩
  · rw [Nat.pow_zero]
    show _ = S.mk m [_, _, _, _, .val (.int (w * 1))]
    rw [Int.mul_one]
    rfl
  · rintro v s1 ⟨i, hi, rfl, rfl⟩
    have hbi : 0 < b ^ i := Nat.pow_pos (by omega)
    walk_at "dd"
    by_cases hc : w * ((b ^ i : Nat) : Int) < z
    · rw [decide_eq_true hc]
      have hp0 : 0 < w * ((b ^ i : Nat) : Int) := Int.mul_pos hw (by omega)
      have hst := pow_step b i w
      have hgt : w * ((b ^ i : Nat) : Int) * 2 ≤ w * ((b ^ i : Nat) : Int) * (b : Int) := Int.mul_le_mul_of_nonneg_left (by omega) (Int.le_of_lt hp0)
      walk_at "dd"
      refine ⟨(lt9 hb.2).cm (lz.le (by omega)), _, ?_, i + 1, fun j hj => ?_, rfl, ?_⟩
      · rw [← hst]
        omega
      · rcases Nat.lt_or_ge j i with h1 | h1
        · exact hi j h1
        · rw [show j = i by omega]
          exact hc
      · rw [Int.mul_comm, hst]
        rfl
    · rw [decide_eq_false hc]
      walk_at "dd"
      rw [Rch.uniq (b := b) ⟨by omega, hi⟩ hp]
      have hpl : (D.int (k : Int)).pl 60 = true := int_pl (nat_lt k (by omega)) 60
      refine repr_pl hpl (by show 1930 ≤ _; decide) (repr_pl hpl (by show 1930 ≤ _; decide) (rep_eq hpl h))
def sp_Ulaw_low : DSp := fun ds m Q => ∃ a b : Int, ds = [.int a, .int b] ∧ 0 < b ∧ Lt 8000 b ∧ Q (Q2 a b) m
theorem ln_Ulaw_low : ∀ ds m Qd, sp_Ulaw_low ds m Qd → ds.length = 2 := by
  rintro ds m Qd ⟨a, b, rfl, _⟩
  rfl
theorem rd_Ulaw_low : ∀ ds m Qd, sp_Ulaw_low ds m Qd → R_Ulaw_low { nx := fun s => Qd .non s.m, rt := Qd } ⟨m, startL 4 ds⟩ := by
  rintro ds m Qd ⟨a, b, rfl, hb, lb, h⟩
  unfold R_Ulaw_low
  walk_at "dd"
  have ea : (if a < 0 then -a else a) = (a.natAbs : Int) := by
    by_cases h0 : a < 0
    · rw [if_pos h0]
      omega
    · rw [if_neg h0]
      omega
  rw [ea]
  have eb : b = (b.natAbs : Int) := by omega
  refine ⟨fun v s => ∃ x y : Nat, Nat.gcd x y = Nat.gcd a.natAbs b.natAbs ∧ v = y ∧ s = ⟨m, [.val (.int a), .val (.int b), .val (.int x), .val (.int y)]⟩, ⟨_, a.natAbs, b.natAbs, rfl, rfl, by rw [← eb]⟩, ?_⟩
  rintro v s1 ⟨x, y, hxy, rfl, rfl⟩
  walk_at "dd"
  cases v with
  | zero =>
    rw [decide_eq_false (show ¬ (0 : Int) < ((0 : Nat) : Int) by decide)]
    walk_at "dd"
    rw [Nat.gcd_zero_right] at hxy
    have hg := gI_pos (a := a) hb
    have eg : ((x : Nat) : Int) = gI a b := by rw [hxy]; rfl
    have hc : CDivZ (gI a b) := ⟨by omega, by
      have : (gI a b).natAbs ≤ b.natAbs := by
        have := Int.le_of_dvd hb (Int.gcd_dvd_right a b)
        have := gI_eq a b
        omega
      have := (lb.le this).log (by decide)
      omega⟩
    rw [eg, Int.fdiv_eq_ediv_of_nonneg _ (Int.le_of_lt hg), Int.fdiv_eq_ediv_of_nonneg _ (Int.le_of_lt hg)]
    exact ⟨hc, hc, h⟩
  | succ y =>
    rw [decide_eq_true (show (0 : Int) < ((y + 1 : Nat) : Int) by omega)]
    walk_at "dd"
    refine ⟨by omega, x % (y + 1), Nat.mod_lt _ (by omega), y + 1, x % (y + 1), ?_, rfl, ?_⟩
    · rw [← hxy, Nat.gcd_comm x, Nat.gcd_rec (y + 1) x, Nat.gcd_comm]
    · rw [fmod_nat]

end DL

/-! part M10 -/
namespace DL
open PySem PySem.Spec PyProof.Rows L2
local macro_rules | `(tactic| walk_at "dd") => `(tactic| simp only [↓e_seq, ↓e_next, ↓e_never, ↓e_ifs, ↓e_ret, ↓e_retN, ↓e_drop, ↓e_brk, ↓e_ct, ↓e_set, ↓e_setF, ↓e_par, ↓e_par3, ↓e_aug, ↓e_asg, ↓e_gNm, ↓e_gTp, ↓e_gsNil, ↓e_gsCons, ↓e_app, ↓e_setIx, ↓e_retM, ↓e_for, ↓e_var, ↓e_VGv, ↓e_VGo, ↓e_peek, ↓e_PG, ↓pk_int, ↓pk_bl, ↓pk_non, ↓pk_str, ↓pk_lst, ↓pk_tup, ↓pk_scr, ↓pk_own, ↓e_AGo, ↓e_AGh, ↓e_HG, ↓e_JG, ↓e_C, ↓e_bin, ↓e_b, ↓e_BG, ↓e_IG, ↓e_chn, ↓e_and, ↓e_or, ↓e_not, ↓e_andV, ↓e_orV, ↓e_notV, ↓e_if, ↓e_tru, ↓tg_bl, ↓tg_int, ↓tg_non, ↓tg_lst, ↓tg_tup, ↓e_nil, ↓e_cons, ↓e_tup, ↓e_lst, ↓lg_0, ↓lg_1, ↓lg_2, ↓lg_3, ↓lg_4, ↓lg_5, ↓lg_6, ↓lg_7, ↓lg_8, ↓lg_9, ↓lg_10, ↓lg_11, ↓lg_12, ↓lg_13, ↓lg_14, ↓lg_15, ↓lg_16, ↓e_fz, ↓e_one, ↓e_oneF, ↓e_ixN, ↓e_neg, ↓e_is, ↓yg_int_int, ↓yg_int_bl, ↓yg_int_non, ↓yg_int_str, ↓yg_int_lst, ↓yg_int_tup, ↓yg_bool_int, ↓yg_bool_bl, ↓yg_bool_non, ↓yg_bool_str, ↓yg_bool_lst, ↓yg_bool_tup, ↓yg_tuple_int, ↓yg_tuple_bl, ↓yg_tuple_non, ↓yg_tuple_str, ↓yg_tuple_lst, ↓yg_tuple_tup, ↓yg_list_int, ↓yg_list_bl, ↓yg_list_non, ↓yg_list_str, ↓yg_list_lst, ↓yg_list_tup, ↓yg_str_int, ↓yg_str_bl, ↓yg_str_non, ↓yg_str_str, ↓yg_str_lst, ↓yg_str_tup, ↓e_call, ↓e_callK, ↓e_isN, ↓e_items, ↓sg_lst, ↓sg_tup, ↓sg_scr, ↓e_slN, ↓e_sl, ↓e_oNone, ↓e_oSome, ↓e_yes, ↓e_lc, ↓e_rng1, ↓e_RG1, ↓e_rng2, ↓e_RG2, ↓e_revRng, ↓e_zip, ↓zg_tup, ↓zg_lst, ↓e_revF, ↓e_lstRg, ↓o_add_i, ↓o_add_b, ↓o_add_t, ↓o_add_l, ↓o_sub, ↓o_mul, ↓o_mul_l, ↓o_div, ↓o_mod, ↓o_pow, ↓o_lt, ↓o_le, ↓o_gt, ↓o_ge, ↓o_eq_i, ↓o_ne_i, ↓o_ix_t, ↓o_ix_l, ↓o_ix_s, ↓o_len_t, ↓o_len_l, ↓o_len_s, ↓o_abs, ↓o_int_i, ↓o_int_b, ↓o_tuple, ↓o_list, ↓o_sum_t, ↓o_sum_l, ↓o_gcd, ↓o_divmod, ↓o_isB, ↓o_notB, ↓o_sl_t, ↓o_sl_l, ↓o_rev_l, ↓o_all, ↓o_any, ↓e_put, ↓pk_mset, ↓mset_s, ↓ix_1_0, ↓ix_2_0, ↓ix_2_1, ↓ix_3_0, ↓ix_3_1, ↓ix_3_2, ↓ix_4_0, ↓ix_4_1, ↓ix_4_2, ↓ix_4_3, ↓ix_5_0, ↓ix_5_1, ↓ix_5_2, ↓ix_5_3, ↓ix_5_4, ↓ix_6_0, ↓ix_6_1, ↓ix_6_2, ↓ix_6_3, ↓ix_6_4, ↓ix_6_5, ↓ix_7_0, ↓ix_7_1, ↓ix_7_2, ↓ix_7_3, ↓ix_7_4, ↓ix_7_5, ↓ix_7_6,
  List.length_cons, List.length_nil, List.map_cons, List.map_nil, List.cons_append, List.nil_append, List.append_nil, List.replicate_succ, List.replicate_zero, Nat.reduceSub, Nat.reduceAdd, Nat.reduceLeDiff, Nat.reduceEqDiff, wipeL, List.set_nil, List.set_cons_zero, List.set_cons_succ, List.getElem?_cons_zero, List.getElem?_cons_succ, List.filterMap_cons, List.filterMap_nil, startL, atI_c0, atI_c1, atI_c2, atI_c3, b2i, Option.some.injEq, D.int.injEq, D.bl.injEq, D.tup.injEq, D.lst.injEq, D.str.injEq, List.cons.injEq, and_true, true_and, and_assoc, ↓reduceIte, Bool.false_eq_true, Bool.not_true, Bool.not_false, if_true, if_false, decide_true, decide_false, Int.cast_ofNat_Int, Int.natCast_one, Int.natCast_zero, Int.reduceBEq, beq_self_eq_true, Int.reduceNeg, Int.reduceLT, Int.reduceLE, isNonB, noH, nT, Bool.true_and, Bool.false_and])

/-! ### the well of draws -/
def WlM (m : M) (a : Addr) : Prop := ∃ (c : List Int) (x y z : Int), m a = some (.lst [.lst (c.map D.int), .int x, .int y, .int z])
theorem oks_ints (c : List Int) (n : Nat) : oks (c.map D.int) n = true := by
  induction c with
  | nil => rfl
  | cons x c ih =>
    rw [List.map_cons]
    show (true && oks (c.map D.int) n) = true
    rw [ih]
    rfl
theorem pk_of {m : M} {a : Addr} {ds : List D} (h : m a = some (.lst ds)) : peekL m (some (.val (.hnd (.ref a)))) = some (.lst ds) := by
  show (match m a with
    | some (MO.lst ds) => some (D.lst ds)
    | none => some (D.hnd (.ref a))) = _
  rw [h]
theorem form_m {m : M} {a : Addr} {o : MO} (h : m a = some o) : m = mset m a o := by
  funext b
  unfold mset
  by_cases hb : b = a
  · rw [if_pos hb, hb, h]
  · rw [if_neg hb]
theorem ne_nil {c : List Int} {q : D → Prop} (h : q (.bl (!c.isEmpty))) : dNe (.lst (c.map D.int)) (.lst []) q := by
  refine ⟨oks_ints c 59, rfl, ?_⟩
  cases c with
  | nil => exact h
  | cons x c => exact h
theorem cm_l {i j : Int} (h : -(2 ^ 64) < i ∧ i < 2 ^ 64) : CM i j := .inl (.inl h)
theorem cdz_i {k : Int} (h : 0 < k) (h2 : k < 2 ^ 64) : CDivZ k := ⟨by omega, by
  have := (show Lt 64 k by unfold Lt; omega).log (by decide)
  omega⟩
theorem fm_pos {a b : Int} (h : 0 < b) : 0 ≤ a.fmod b ∧ a.fmod b < b := by
  rw [Int.fmod_eq_emod_of_nonneg _ (Int.le_of_lt h)]
  exact ⟨Int.emod_nonneg _ (by omega), Int.emod_lt_of_pos _ h⟩
theorem cm_f {a b j : Int} (h : 0 < b) (h2 : b < 2 ^ 64) : CM (a.fmod b) j := by
  have := fm_pos (a := a) h
  exact cm_l ⟨by omega, by omega⟩
theorem at_int {c : List Int} {i : Int} (h0 : 0 ≤ i) (h1 : i < c.length) : atI (c.map D.int) i = some (.int (c.getD i.toNat 0)) := by
  have hi : i.toNat < c.length := by omega
  rw [atI_nth h0, List.getElem?_map, List.getElem?_eq_getElem hi]
  unfold List.getD
  rw [List.getElem?_eq_getElem hi]
  rfl
def sp_Ulaw_dip : DSp
  | [.hnd (.ref a), .int n], m, Q => WlM m a ∧ (0 < n ∧ n < 2 ^ 64) ∧ ∀ (r : Nat) m', (r : Int) < n → WlM m' a → Q (.int r) m'
  | _, _, _ => False
theorem ln_Ulaw_dip : ∀ ds m Qd, sp_Ulaw_dip ds m Qd → ds.length = 2 := by
  intro ds m Qd h
  unfold sp_Ulaw_dip at h
  split at h
  · rfl
  · exact h.elim
theorem rd_Ulaw_dip : ∀ ds m Qd, sp_Ulaw_dip ds m Qd → R_Ulaw_dip { nx := fun s => Qd .non s.m, rt := Qd } ⟨m, startL 7 ds⟩ := by
  intro ds m Qd h
  unfold sp_Ulaw_dip at h
  split at h
  · unfold R_Ulaw_dip
    rename_i a n
    obtain ⟨⟨c, x, y, z, hm⟩, ⟨hn, hn2⟩, h⟩ := h
    have hn0 : n ≠ 0 := by omega
    have hk : ∀ (v : Int) m', WlM m' a → Qd (.int (v.fmod n)) m' := fun v m' hw => by
      have := fm_pos (a := v) hn
      have e : v.fmod n = ((v.fmod n).toNat : Int) := by omega
      rw [e]
      exact h _ _ (by omega) hw
    have hcd := cdz_i hn hn2
    rw [form_m hm]
    walk_at "dd"
    by_cases hy : 0 < y
    · rw [decide_eq_true hy]
      walk_at "dd"
      exact ⟨hn0, hcd, hk _ _ ⟨c, x, _, _, mset_same⟩⟩
    · rw [decide_eq_false hy]
      walk_at "dd"
      refine ne_nil ?_
      walk_at "dd"
      by_cases hce : c = []
      · rw [show (!c.isEmpty) = false by rw [hce]; rfl]
        walk_at "dd"
        generalize (48317 : Int) = v
        have t2 : ∀ e : Int, Qd (.int (e.fmod n)) (mset (mset (mset m a (MO.lst [D.lst (List.map D.int c), D.int x, D.int y, D.int z])) a (MO.lst [D.lst (List.map D.int c), D.int x, D.int y, D.int (z + 1)])) a (MO.lst [D.lst (List.map D.int c), D.int (x + 1), D.int y, D.int (z + 1)])) := fun e => hk _ _ ⟨c, _, _, _, mset_same⟩
        refine ⟨⟨by decide, by decide, by decide⟩, ?_⟩
        split
        · split
          · exact ⟨hcd, hn0, hk _ _ ⟨c, _, _, _, mset_same⟩⟩
          · exact ⟨by decide, cm_l (by decide), by decide, cm_f (by decide) (by decide), cm_l (by decide), by decide, cm_f (by decide) (by decide), cm_l (by decide), by decide, cdz_i (by decide) (by decide), hn0, t2 _⟩
        · exact ⟨by decide, cm_l (by decide), by decide, cm_f (by decide) (by decide), cm_l (by decide), by decide, cm_f (by decide) (by decide), cm_l (by decide), by decide, cdz_i (by decide) (by decide), hn0, t2 _⟩
      · rw [show (!c.isEmpty) = true by cases c with
          | nil => exact absurd rfl hce
          | cons _ _ => rfl]
        have hlen : (0 : Int) < ((c.map D.int).length : Nat) := by
          rw [List.length_map]
          have := List.length_pos_iff.mpr hce
          omega
        have hfm := fm_pos (a := x) hlen
        rw [List.length_map] at hfm hlen
        rw [List.length_map]
        walk_at "dd"
        refine ⟨by omega, ?_⟩
        rw [at_int hfm.1 hfm.2]
        walk_at "dd"
        generalize c.getD _ 0 = v
        have t2 : ∀ e : Int, Qd (.int (e.fmod n)) (mset (mset (mset m a (MO.lst [D.lst (List.map D.int c), D.int x, D.int y, D.int z])) a (MO.lst [D.lst (List.map D.int c), D.int x, D.int y, D.int (z + 1)])) a (MO.lst [D.lst (List.map D.int c), D.int (x + 1), D.int y, D.int (z + 1)])) := fun e => hk _ _ ⟨c, _, _, _, mset_same⟩
        refine ⟨⟨by decide, by decide, by decide⟩, ?_⟩
        split
        · split
          · exact ⟨hcd, hn0, hk _ _ ⟨c, _, _, _, mset_same⟩⟩
          · exact ⟨by decide, cm_l (by decide), by decide, cm_f (by decide) (by decide), cm_l (by decide), by decide, cm_f (by decide) (by decide), cm_l (by decide), by decide, cdz_i (by decide) (by decide), hn0, t2 _⟩
        · exact ⟨by decide, cm_l (by decide), by decide, cm_f (by decide) (by decide), cm_l (by decide), by decide, cm_f (by decide) (by decide), cm_l (by decide), by decide, cdz_i (by decide) (by decide), hn0, t2 _⟩
  · exact h.elim

end DL

/-! part M11 -/
namespace DL
open PySem PySem.Spec PyProof.Rows L2
local macro_rules | `(tactic| walk_at "dd") => `(tactic| simp only [↓e_seq, ↓e_next, ↓e_never, ↓e_ifs, ↓e_ret, ↓e_retN, ↓e_drop, ↓e_brk, ↓e_ct, ↓e_set, ↓e_setF, ↓e_par, ↓e_par3, ↓e_aug, ↓e_asg, ↓e_gNm, ↓e_gTp, ↓e_gsNil, ↓e_gsCons, ↓e_app, ↓e_setIx, ↓e_retM, ↓e_for, ↓e_var, ↓e_VGv, ↓e_VGo, ↓e_peek, ↓e_PG, ↓pk_int, ↓pk_bl, ↓pk_non, ↓pk_str, ↓pk_lst, ↓pk_tup, ↓pk_scr, ↓pk_own, ↓e_AGo, ↓e_AGh, ↓e_HG, ↓e_JG, ↓e_C, ↓e_bin, ↓e_b, ↓e_BG, ↓e_IG, ↓e_chn, ↓e_and, ↓e_or, ↓e_not, ↓e_andV, ↓e_orV, ↓e_notV, ↓e_if, ↓e_tru, ↓tg_bl, ↓tg_int, ↓tg_non, ↓tg_lst, ↓tg_tup, ↓e_nil, ↓e_cons, ↓e_tup, ↓e_lst, ↓lg_0, ↓lg_1, ↓lg_2, ↓lg_3, ↓lg_4, ↓lg_5, ↓lg_6, ↓lg_7, ↓lg_8, ↓lg_9, ↓lg_10, ↓lg_11, ↓lg_12, ↓lg_13, ↓lg_14, ↓lg_15, ↓lg_16, ↓e_fz, ↓e_one, ↓e_oneF, ↓e_ixN, ↓e_neg, ↓e_is, ↓yg_int_int, ↓yg_int_bl, ↓yg_int_non, ↓yg_int_str, ↓yg_int_lst, ↓yg_int_tup, ↓yg_bool_int, ↓yg_bool_bl, ↓yg_bool_non, ↓yg_bool_str, ↓yg_bool_lst, ↓yg_bool_tup, ↓yg_tuple_int, ↓yg_tuple_bl, ↓yg_tuple_non, ↓yg_tuple_str, ↓yg_tuple_lst, ↓yg_tuple_tup, ↓yg_list_int, ↓yg_list_bl, ↓yg_list_non, ↓yg_list_str, ↓yg_list_lst, ↓yg_list_tup, ↓yg_str_int, ↓yg_str_bl, ↓yg_str_non, ↓yg_str_str, ↓yg_str_lst, ↓yg_str_tup, ↓e_call, ↓e_callK, ↓e_isN, ↓e_items, ↓sg_lst, ↓sg_tup, ↓sg_scr, ↓e_slN, ↓e_sl, ↓e_oNone, ↓e_oSome, ↓e_yes, ↓e_lc, ↓e_rng1, ↓e_RG1, ↓e_rng2, ↓e_RG2, ↓e_revRng, ↓e_zip, ↓zg_tup, ↓zg_lst, ↓e_revF, ↓e_lstRg, ↓o_add_i, ↓o_add_b, ↓o_add_t, ↓o_add_l, ↓o_sub, ↓o_mul, ↓o_mul_l, ↓o_div, ↓o_mod, ↓o_pow, ↓o_lt, ↓o_le, ↓o_gt, ↓o_ge, ↓o_eq_i, ↓o_ne_i, ↓o_ix_t, ↓o_ix_l, ↓o_ix_s, ↓o_len_t, ↓o_len_l, ↓o_len_s, ↓o_abs, ↓o_int_i, ↓o_int_b, ↓o_tuple, ↓o_list, ↓o_sum_t, ↓o_sum_l, ↓o_gcd, ↓o_divmod, ↓o_isB, ↓o_notB, ↓o_sl_t, ↓o_sl_l, ↓o_rev_l, ↓o_all, ↓o_any, ↓e_put, ↓pk_mset, ↓mset_s, ↓ix_1_0, ↓ix_2_0, ↓ix_2_1, ↓ix_3_0, ↓ix_3_1, ↓ix_3_2, ↓ix_4_0, ↓ix_4_1, ↓ix_4_2, ↓ix_4_3, ↓ix_5_0, ↓ix_5_1, ↓ix_5_2, ↓ix_5_3, ↓ix_5_4, ↓ix_6_0, ↓ix_6_1, ↓ix_6_2, ↓ix_6_3, ↓ix_6_4, ↓ix_6_5, ↓ix_7_0, ↓ix_7_1, ↓ix_7_2, ↓ix_7_3, ↓ix_7_4, ↓ix_7_5, ↓ix_7_6,
  List.length_cons, List.length_nil, List.map_cons, List.map_nil, List.cons_append, List.nil_append, List.append_nil, List.replicate_succ, List.replicate_zero, Nat.reduceSub, Nat.reduceAdd, Nat.reduceLeDiff, Nat.reduceEqDiff, wipeL, List.set_nil, List.set_cons_zero, List.set_cons_succ, List.getElem?_cons_zero, List.getElem?_cons_succ, List.filterMap_cons, List.filterMap_nil, startL, atI_c0, atI_c1, atI_c2, atI_c3, b2i, Option.some.injEq, D.int.injEq, D.bl.injEq, D.tup.injEq, D.lst.injEq, D.str.injEq, List.cons.injEq, and_true, true_and, and_assoc, ↓reduceIte, Bool.false_eq_true, Bool.not_true, Bool.not_false, if_true, if_false, decide_true, decide_false, Int.cast_ofNat_Int, Int.natCast_one, Int.natCast_zero, Int.reduceBEq, beq_self_eq_true, Int.reduceNeg, Int.reduceLT, Int.reduceLE, isNonB, noH, nT, Bool.true_and, Bool.false_and])

theorem dip_ok {a : Addr} {n : Int} {m : M} {Q : D → M → Prop} (hw : WlM m a) (hn : 0 < n) (hn2 : n < 2 ^ 64) (h : ∀ (r : Nat) m', (r : Int) < n → WlM m' a → Q (.int r) m') : sp_Ulaw_dip [.hnd (.ref a), .int n] m Q := ⟨hw, ⟨hn, hn2⟩, h⟩
def sp_Ulaw_well : DSp
  | [.scr ns], m, Q => ns.length ≤ 63 ∧ ∀ a m', WlM m' a → Q (.hnd (.ref a)) m'
  | _, _, _ => False
theorem ln_Ulaw_well : ∀ ds m Qd, sp_Ulaw_well ds m Qd → ds.length = 1 := by
  intro ds m Qd h
  unfold sp_Ulaw_well at h
  split at h
  · rfl
  · exact h.elim
theorem rd_Ulaw_well : ∀ ds m Qd, sp_Ulaw_well ds m Qd → R_Ulaw_well { nx := fun s => Qd .non s.m, rt := Qd } ⟨m, startL 2 ds⟩ := by
  intro ds m Qd h
  unfold sp_Ulaw_well at h
  split at h
  · unfold R_Ulaw_well
    rename_i ns
    obtain ⟨hl, h⟩ := h
    walk_at "dd"
    refine lc_map (fun i => .int (2 * (if ns.getD i 0 < 0 then -(ns.getD i 0) else ns.getD i 0) + (if decide (ns.getD i 0 < 0) = true then 1 else 0))) rfl (by rw [List.length_map]; omega) (fun i d hd Q' hq => ?_) ?_
    · obtain ⟨hi, rfl⟩ : i < ns.length ∧ d = .int (ns.getD i 0) := by
        rw [List.getElem?_map] at hd
        cases e : ns[i]? with
        | none => rw [e] at hd; cases hd
        | some x =>
          rw [e] at hd
          cases hd
          refine ⟨(List.getElem?_eq_some_iff.mp e).1, ?_⟩
          unfold List.getD
          rw [e]
          rfl
      walk_at "dd"
      exact ⟨cm_l (by decide), hq _ rfl rfl⟩
    · try walk_at "dd"
      intro a ha
      refine h a _ ⟨(List.range ns.length).map fun i => (2 * (if ns.getD i 0 < 0 then -(ns.getD i 0) else ns.getD i 0) + (if decide (ns.getD i 0 < 0) = true then 1 else 0)), 0, 0, 0, ?_⟩
      rw [mset_same, List.map_map, List.length_map]
      rfl
  · exact h.elim
def sp_Ulaw_pick : DSp
  | [.hnd (.ref a), .lst xs], m, Q => WlM m a ∧ (0 < xs.length ∧ xs.length ≤ 1000) ∧ ∀ x m', x ∈ xs → WlM m' a → Q x m'
  | _, _, _ => False
theorem ln_Ulaw_pick : ∀ ds m Qd, sp_Ulaw_pick ds m Qd → ds.length = 2 := by
  intro ds m Qd h
  unfold sp_Ulaw_pick at h
  split at h
  · rfl
  · exact h.elim
theorem rd_Ulaw_pick : ∀ ds m Qd, sp_Ulaw_pick ds m Qd → R_Ulaw_pick sp_Ulaw_dip { nx := fun s => Qd .non s.m, rt := Qd } ⟨m, startL 2 ds⟩ := by
  intro ds m Qd h
  unfold sp_Ulaw_pick at h
  split at h
  · unfold R_Ulaw_pick
    rename_i a xs
    obtain ⟨hw, ⟨h0, h1⟩, h⟩ := h
    walk_at "dd"
    refine dip_ok hw (by omega) (by omega) fun r m' hr hw' => ?_
    walk_at "dd"
    have hr : r < xs.length := by omega
    rw [atI_nat (List.getElem?_eq_getElem hr)]
    walk_at "dd"
    exact h _ _ (List.getElem_mem hr) hw'
  · exact h.elim
def sp_Ulaw_great : DSp
  | [.hnd (.ref a), .int k], m, Q => WlM m a ∧ (0 ≤ k ∧ k ≤ 10) ∧ ∀ (n : Nat) m', n < 2 ^ 200 → WlM m' a → Q (.int n) m'
  | _, _, _ => False
theorem ln_Ulaw_great : ∀ ds m Qd, sp_Ulaw_great ds m Qd → ds.length = 2 := by
  intro ds m Qd h
  unfold sp_Ulaw_great at h
  split at h
  · rfl
  · exact h.elim
theorem rd_Ulaw_great : ∀ ds m Qd, sp_Ulaw_great ds m Qd → R_Ulaw_great sp_Ulaw_dip { nx := fun s => Qd .non s.m, rt := Qd } ⟨m, startL 4 ds⟩ := by
  intro ds m Qd h
  unfold sp_Ulaw_great at h
  split at h
  · unfold R_Ulaw_great
    rename_i a k
    obtain ⟨hw, ⟨h0, h1⟩, h⟩ := h
    walk_at "dd"
    refine ⟨⟨by omega, by omega⟩, ?_⟩
    refine ⟨fun i s => ∃ (x : Sl) (n : Nat) (m' : M), i ≤ 10 ∧ n < 1000003 ^ i ∧ WlM m' a ∧ s = ⟨m', [.val (.hnd (.ref a)), .val (.int k), .val (.int n), x]⟩, ⟨_, 0, m, by omega, by simp, hw, rfl⟩, ?_, ?_⟩
    · rintro i d s2 hd ⟨x, n, m', hi, hn, hw', rfl⟩
      obtain ⟨hi2, rfl⟩ := rng_at hd
      have hi3 : i < 10 := by omega
      have hn2 : n < 2 ^ 200 := Nat.lt_of_lt_of_le hn (Nat.le_trans (Nat.pow_le_pow_right (by decide) hi) (by decide))
      walk_at "dd"
      refine ⟨(show Lt 200 (n : Int) from hn2).cm (show Lt 20 (1000003 : Int) by unfold Lt; decide), ?_⟩
      refine dip_ok hw' (by decide) (by decide) fun r m2 hr hw2 => ?_
      try walk_at "dd"
      refine ⟨_, n * 1000003 + r, m2, by omega, ?_, hw2, rfl⟩
      rw [Nat.pow_succ]
      omega
    · rintro s2 ⟨x, n, m', hi, hn, hw', rfl⟩
      walk_at "dd"
      refine h n m' ?_ hw'
      exact Nat.lt_of_lt_of_le hn (Nat.le_trans (Nat.pow_le_pow_right (by decide) hi) (by decide))
  · exact h.elim
def sp_Ulaw_stack : DSp
  | [.hnd (.ref a)], m, Q => WlM m a ∧ ∀ (n : Nat) m', n < 2 ^ 200 → WlM m' a → Q (.int n) m'
  | _, _, _ => False
theorem ln_Ulaw_stack : ∀ ds m Qd, sp_Ulaw_stack ds m Qd → ds.length = 1 := by
  intro ds m Qd h
  unfold sp_Ulaw_stack at h
  split at h
  · rfl
  · exact h.elim
theorem rd_Ulaw_stack : ∀ ds m Qd, sp_Ulaw_stack ds m Qd → R_Ulaw_stack sp_Ulaw_dip sp_Ulaw_great sp_Ulaw_pick { nx := fun s => Qd .non s.m, rt := Qd } ⟨m, startL 2 ds⟩ := by
  intro ds m Qd h
  unfold sp_Ulaw_stack at h
  split at h
  · unfold R_Ulaw_stack
    rename_i a
    obtain ⟨hw, h⟩ := h
    have big : ∀ r : Nat, r < 100 → r < 2 ^ 200 := fun r hr => Nat.lt_of_lt_of_le hr (by decide)
    walk_at "dd"
    refine dip_ok hw (by decide) (by decide) fun r m1 hr hw1 => ?_
    try walk_at "dd"
    split
    · exact h r m1 (big r (by omega)) hw1
    · split
      · exact dip_ok hw1 (by decide) (by decide) fun r m2 hr hw2 => h r m2 (big r (by omega)) hw2
      · refine ⟨hw1, ⟨by decide, by decide⟩, fun x m2 hx hw2 => ?_⟩
        have : x = .int 1 ∨ x = .int 3 ∨ x = .int 10 := by simpa using hx
        rcases this with rfl | rfl | rfl
        all_goals exact ⟨hw2, ⟨by decide, by decide⟩, fun n m3 hn hw3 => h n m3 hn hw3⟩
  · exact h.elim

end DL

/-! part M12 -/
namespace DL
open PySem PySem.Spec PyProof.Rows L2
local macro_rules | `(tactic| walk_at "dd") => `(tactic| simp only [↓e_seq, ↓e_next, ↓e_never, ↓e_ifs, ↓e_ret, ↓e_retN, ↓e_drop, ↓e_brk, ↓e_ct, ↓e_set, ↓e_setF, ↓e_par, ↓e_par3, ↓e_aug, ↓e_asg, ↓e_gNm, ↓e_gTp, ↓e_gsNil, ↓e_gsCons, ↓e_app, ↓e_setIx, ↓e_retM, ↓e_for, ↓e_var, ↓e_VGv, ↓e_VGo, ↓e_peek, ↓e_PG, ↓pk_int, ↓pk_bl, ↓pk_non, ↓pk_str, ↓pk_lst, ↓pk_tup, ↓pk_scr, ↓pk_own, ↓e_AGo, ↓e_AGh, ↓e_HG, ↓e_JG, ↓e_C, ↓e_bin, ↓e_b, ↓e_BG, ↓e_IG, ↓e_chn, ↓e_and, ↓e_or, ↓e_not, ↓e_andV, ↓e_orV, ↓e_notV, ↓e_if, ↓e_tru, ↓tg_bl, ↓tg_int, ↓tg_non, ↓tg_lst, ↓tg_tup, ↓e_nil, ↓e_cons, ↓e_tup, ↓e_lst, ↓lg_0, ↓lg_1, ↓lg_2, ↓lg_3, ↓lg_4, ↓lg_5, ↓lg_6, ↓lg_7, ↓lg_8, ↓lg_9, ↓lg_10, ↓lg_11, ↓lg_12, ↓lg_13, ↓lg_14, ↓lg_15, ↓lg_16, ↓e_fz, ↓e_one, ↓e_oneF, ↓e_ixN, ↓e_neg, ↓e_is, ↓yg_int_int, ↓yg_int_bl, ↓yg_int_non, ↓yg_int_str, ↓yg_int_lst, ↓yg_int_tup, ↓yg_bool_int, ↓yg_bool_bl, ↓yg_bool_non, ↓yg_bool_str, ↓yg_bool_lst, ↓yg_bool_tup, ↓yg_tuple_int, ↓yg_tuple_bl, ↓yg_tuple_non, ↓yg_tuple_str, ↓yg_tuple_lst, ↓yg_tuple_tup, ↓yg_list_int, ↓yg_list_bl, ↓yg_list_non, ↓yg_list_str, ↓yg_list_lst, ↓yg_list_tup, ↓yg_str_int, ↓yg_str_bl, ↓yg_str_non, ↓yg_str_str, ↓yg_str_lst, ↓yg_str_tup, ↓e_call, ↓e_callK, ↓e_isN, ↓e_items, ↓sg_lst, ↓sg_tup, ↓sg_scr, ↓e_slN, ↓e_sl, ↓e_oNone, ↓e_oSome, ↓e_yes, ↓e_lc, ↓e_rng1, ↓e_RG1, ↓e_rng2, ↓e_RG2, ↓e_revRng, ↓e_zip, ↓zg_tup, ↓zg_lst, ↓e_revF, ↓e_lstRg, ↓o_add_i, ↓o_add_b, ↓o_add_t, ↓o_add_l, ↓o_sub, ↓o_mul, ↓o_mul_l, ↓o_div, ↓o_mod, ↓o_pow, ↓o_lt, ↓o_le, ↓o_gt, ↓o_ge, ↓o_eq_i, ↓o_ne_i, ↓o_ix_t, ↓o_ix_l, ↓o_ix_s, ↓o_len_t, ↓o_len_l, ↓o_len_s, ↓o_abs, ↓o_int_i, ↓o_int_b, ↓o_tuple, ↓o_list, ↓o_sum_t, ↓o_sum_l, ↓o_gcd, ↓o_divmod, ↓o_isB, ↓o_notB, ↓o_sl_t, ↓o_sl_l, ↓o_rev_l, ↓o_all, ↓o_any, ↓e_put, ↓pk_mset, ↓mset_s, ↓ix_1_0, ↓ix_2_0, ↓ix_2_1, ↓ix_3_0, ↓ix_3_1, ↓ix_3_2, ↓ix_4_0, ↓ix_4_1, ↓ix_4_2, ↓ix_4_3, ↓ix_5_0, ↓ix_5_1, ↓ix_5_2, ↓ix_5_3, ↓ix_5_4, ↓ix_6_0, ↓ix_6_1, ↓ix_6_2, ↓ix_6_3, ↓ix_6_4, ↓ix_6_5, ↓ix_7_0, ↓ix_7_1, ↓ix_7_2, ↓ix_7_3, ↓ix_7_4, ↓ix_7_5, ↓ix_7_6,
  List.length_cons, List.length_nil, List.map_cons, List.map_nil, List.cons_append, List.nil_append, List.append_nil, List.replicate_succ, List.replicate_zero, Nat.reduceSub, Nat.reduceAdd, Nat.reduceLeDiff, Nat.reduceEqDiff, wipeL, List.set_nil, List.set_cons_zero, List.set_cons_succ, List.getElem?_cons_zero, List.getElem?_cons_succ, List.filterMap_cons, List.filterMap_nil, startL, atI_c0, atI_c1, atI_c2, atI_c3, b2i, Option.some.injEq, D.int.injEq, D.bl.injEq, D.tup.injEq, D.lst.injEq, D.str.injEq, List.cons.injEq, and_true, true_and, and_assoc, ↓reduceIte, Bool.false_eq_true, Bool.not_true, Bool.not_false, if_true, if_false, decide_true, decide_false, Int.cast_ofNat_Int, Int.natCast_one, Int.natCast_zero, Int.reduceBEq, beq_self_eq_true, Int.reduceNeg, Int.reduceLT, Int.reduceLE, isNonB, noH, nT, Bool.true_and, Bool.false_and])

theorem ixN_n {n j : Nat} (hj : j < n) : ixN n (j : Int) = some j := by
  unfold ixN
  rw [if_pos (by omega), if_pos (by omega)]
  rfl
theorem nL_set (ns : List Nat) (r k : Nat) : (nL ns).set r (.int (k : Int)) = nL (ns.set r k) := by unfold nL; rw [List.map_set]
theorem sum_le {c : Nat} : ∀ {ns : List Nat}, (∀ n ∈ ns, n ≤ c) → ns.sum ≤ ns.length * c
  | [], _ => by simp
  | n :: ns, h => by
    have h1 := h n (by simp)
    have h2 := sum_le (ns := ns) fun x hx => h x (List.mem_cons_of_mem _ hx)
    rw [List.sum_cons, List.length_cons, Nat.add_mul]
    omega
theorem set_mem {ns : List Nat} {c r k : Nat} (h : ∀ n ∈ ns, n ≤ c) (hk : k ≤ c) : ∀ n ∈ ns.set r k, n ≤ c := fun n hn => by
  rcases List.mem_or_eq_of_mem_set hn with h1 | h1
  · exact h n h1
  · omega
theorem sum_set_pos {k : Nat} (hk : 0 < k) : ∀ {ns : List Nat} {r : Nat}, r < ns.length → 0 < (ns.set r k).sum
  | [], r, h => by simp at h
  | n :: ns, 0, h => by
    show 0 < (k :: ns).sum
    rw [List.sum_cons]
    omega
  | n :: ns, r + 1, h => by
    show 0 < (n :: ns.set r k).sum
    rw [List.sum_cons]
    have := sum_set_pos hk (ns := ns) (r := r) (by simpa using h)
    omega
theorem tb_of {ns : List Nat} {c : Nat} (h : ∀ n ∈ ns, n ≤ c) (hc : c ≤ 999) (hl : ns.length ≤ 8) (h0 : 0 < ns.sum) : Tb ns := by
  have := sum_le h
  have h2 : ns.length * c ≤ 8 * 999 := Nat.mul_le_mul hl hc
  exact ⟨h0, by omega, by omega⟩
def sp_Ulaw_counts : DSp
  | [.hnd (.ref a), .int mx], m, Q => WlM m a ∧ (1 ≤ mx ∧ mx ≤ 999) ∧ ∀ (t : List Nat) m', Tb t → WlM m' a → Q (nT t) m'
  | _, _, _ => False
theorem ln_Ulaw_counts : ∀ ds m Qd, sp_Ulaw_counts ds m Qd → ds.length = 2 := by
  intro ds m Qd h
  unfold sp_Ulaw_counts at h
  split at h
  · rfl
  · exact h.elim
theorem rd_Ulaw_counts : ∀ ds m Qd, sp_Ulaw_counts ds m Qd → R_Ulaw_counts sp_Ulaw_pick sp_Ulaw_dip { nx := fun s => Qd .non s.m, rt := Qd } ⟨m, startL 5 ds⟩ := by
  intro ds m Qd h
  unfold sp_Ulaw_counts at h
  split at h
  · unfold R_Ulaw_counts
    rename_i a mx
    obtain ⟨hw, ⟨h0, h1⟩, h⟩ := h
    obtain ⟨mx, rfl⟩ : ∃ k : Nat, mx = k := ⟨mx.toNat, by omega⟩
    have hmx : mx ≤ 999 := by omega
    walk_at "dd"
    refine ⟨hw, ⟨by decide, by decide⟩, fun x m1 hx hw1 => ?_⟩
    obtain ⟨sz, ⟨hs1, hs2⟩, rfl⟩ : ∃ n : Nat, (1 ≤ n ∧ n ≤ 8) ∧ x = .int n := by
      have : x = .int 1 ∨ x = .int 2 ∨ x = .int 3 ∨ x = .int 4 ∨ x = .int 5 ∨ x = .int 8 := by simpa using hx
      rcases this with rfl | rfl | rfl | rfl | rfl | rfl
      · exact ⟨1, by decide, rfl⟩
      · exact ⟨2, by decide, rfl⟩
      · exact ⟨3, by decide, rfl⟩
      · exact ⟨4, by decide, rfl⟩
      · exact ⟨5, by decide, rfl⟩
      · exact ⟨8, by decide, rfl⟩
    try walk_at "dd"
    rw [Int.toNat_natCast]
    refine ⟨⟨by omega, by omega⟩, lc_run (fun i acc m' => ∃ ns : List Nat, acc = nL ns ∧ ns.length = i ∧ (∀ n ∈ ns, n ≤ mx) ∧ WlM m' a) rfl (by simp; omega) ⟨[], rfl, rfl, by simp, hw1⟩ ?_ ?_⟩
    · rintro i d acc m' hd _ ⟨ns, rfl, hlen, hle, hw'⟩ Q' hq
      obtain ⟨hi, rfl⟩ := rng_at hd
      walk_at "dd"
      refine dip_ok hw' (by omega) (by omega) fun r m2 hr hw2 => ?_
      refine hq _ _ ⟨ns ++ [r], by rw [nL_app]; rfl, by rw [List.length_append, hlen]; rfl, fun n hn => ?_, hw2⟩ rfl
      rcases List.mem_append.mp hn with hn | hn
      · exact hle n hn
      · rw [List.mem_singleton.mp hn]
        omega
    · rintro acc m' _ ⟨ns, rfl, hlen, hle, hw'⟩
      rw [List.length_map, List.length_range] at hlen
      walk_at "dd"
      refine dip_ok hw' (by omega) (by omega) fun r m2 hr hw2 => ?_
      try walk_at "dd"
      split
      · refine dip_ok hw2 (by omega) (by omega) fun r3 m3 hr3 hw => ?_
        try walk_at "dd"
        rw [nL_len, ixN_n (show r3 < ns.length by omega)]
        walk_at "dd"
        rw [show D.int 0 = D.int ((0 : Nat) : Int) from rfl, nL_set]
        have hle := set_mem (r := r3) hle (Nat.zero_le mx)
        have hlen : (ns.set r3 0).length = sz := by rw [List.length_set, hlen]
        generalize ns.set r3 0 = ns at *
        refine ⟨_, nL_ints _, ?_⟩
        rw [sum_cast]
        by_cases hz : ns.sum = 0
        · rw [show (((ns.sum : Nat) : Int) == 0) = true by rw [hz]; rfl]
          walk_at "dd"
          refine dip_ok hw (by omega) (by omega) fun r1 m4 hr1 hw4 => ?_
          try walk_at "dd"
          refine dip_ok hw4 (by omega) (by omega) fun r2 m5 hr2 hw5 => ?_
          rw [nL_len]
          walk_at "dd"
          rw [ixN_n (show r2 < ns.length by omega)]
          walk_at "dd"
          have e : (1 : Int) + (r1 : Int) = ((1 + r1 : Nat) : Int) := by omega
          rw [e, nL_set]
          exact h _ _ (tb_of (set_mem hle (by omega)) hmx (by rw [List.length_set]; omega) (sum_set_pos (by omega) (by omega))) hw5
        · rw [show (((ns.sum : Nat) : Int) == 0) = false from beq_false_of_ne (by omega)]
          walk_at "dd"
          exact h _ _ (tb_of hle hmx (by omega) (by omega)) hw
      · have hw := hw2
        refine ⟨_, nL_ints _, ?_⟩
        rw [sum_cast]
        by_cases hz : ns.sum = 0
        · rw [show (((ns.sum : Nat) : Int) == 0) = true by rw [hz]; rfl]
          walk_at "dd"
          refine dip_ok hw (by omega) (by omega) fun r1 m4 hr1 hw4 => ?_
          try walk_at "dd"
          refine dip_ok hw4 (by omega) (by omega) fun r2 m5 hr2 hw5 => ?_
          rw [nL_len]
          walk_at "dd"
          rw [ixN_n (show r2 < ns.length by omega)]
          walk_at "dd"
          have e : (1 : Int) + (r1 : Int) = ((1 + r1 : Nat) : Int) := by omega
          rw [e, nL_set]
          exact h _ _ (tb_of (set_mem hle (by omega)) hmx (by rw [List.length_set]; omega) (sum_set_pos (by omega) (by omega))) hw5
        · rw [show (((ns.sum : Nat) : Int) == 0) = false from beq_false_of_ne (by omega)]
          walk_at "dd"
          exact h _ _ (tb_of hle hmx (by omega) (by omega)) hw
  · exact h.elim

end DL

/-! part M13 -/
namespace DL
open PySem PySem.Spec PyProof.Rows L2
local macro_rules | `(tactic| walk_at "dd") => `(tactic| simp only [↓e_seq, ↓e_next, ↓e_never, ↓e_ifs, ↓e_ret, ↓e_retN, ↓e_drop, ↓e_brk, ↓e_ct, ↓e_set, ↓e_setF, ↓e_par, ↓e_par3, ↓e_aug, ↓e_asg, ↓e_gNm, ↓e_gTp, ↓e_gsNil, ↓e_gsCons, ↓e_app, ↓e_setIx, ↓e_retM, ↓e_for, ↓e_var, ↓e_VGv, ↓e_VGo, ↓e_peek, ↓e_PG, ↓pk_int, ↓pk_bl, ↓pk_non, ↓pk_str, ↓pk_lst, ↓pk_tup, ↓pk_scr, ↓pk_own, ↓e_AGo, ↓e_AGh, ↓e_HG, ↓e_JG, ↓e_C, ↓e_bin, ↓e_b, ↓e_BG, ↓e_IG, ↓e_chn, ↓e_and, ↓e_or, ↓e_not, ↓e_andV, ↓e_orV, ↓e_notV, ↓e_if, ↓e_tru, ↓tg_bl, ↓tg_int, ↓tg_non, ↓tg_lst, ↓tg_tup, ↓e_nil, ↓e_cons, ↓e_tup, ↓e_lst, ↓lg_0, ↓lg_1, ↓lg_2, ↓lg_3, ↓lg_4, ↓lg_5, ↓lg_6, ↓lg_7, ↓lg_8, ↓lg_9, ↓lg_10, ↓lg_11, ↓lg_12, ↓lg_13, ↓lg_14, ↓lg_15, ↓lg_16, ↓e_fz, ↓e_one, ↓e_oneF, ↓e_ixN, ↓e_neg, ↓e_is, ↓yg_int_int, ↓yg_int_bl, ↓yg_int_non, ↓yg_int_str, ↓yg_int_lst, ↓yg_int_tup, ↓yg_bool_int, ↓yg_bool_bl, ↓yg_bool_non, ↓yg_bool_str, ↓yg_bool_lst, ↓yg_bool_tup, ↓yg_tuple_int, ↓yg_tuple_bl, ↓yg_tuple_non, ↓yg_tuple_str, ↓yg_tuple_lst, ↓yg_tuple_tup, ↓yg_list_int, ↓yg_list_bl, ↓yg_list_non, ↓yg_list_str, ↓yg_list_lst, ↓yg_list_tup, ↓yg_str_int, ↓yg_str_bl, ↓yg_str_non, ↓yg_str_str, ↓yg_str_lst, ↓yg_str_tup, ↓e_call, ↓e_callK, ↓e_isN, ↓e_items, ↓sg_lst, ↓sg_tup, ↓sg_scr, ↓e_slN, ↓e_sl, ↓e_oNone, ↓e_oSome, ↓e_yes, ↓e_lc, ↓e_rng1, ↓e_RG1, ↓e_rng2, ↓e_RG2, ↓e_revRng, ↓e_zip, ↓zg_tup, ↓zg_lst, ↓e_revF, ↓e_lstRg, ↓o_add_i, ↓o_add_b, ↓o_add_t, ↓o_add_l, ↓o_sub, ↓o_mul, ↓o_mul_l, ↓o_div, ↓o_mod, ↓o_pow, ↓o_lt, ↓o_le, ↓o_gt, ↓o_ge, ↓o_eq_i, ↓o_ne_i, ↓o_ix_t, ↓o_ix_l, ↓o_ix_s, ↓o_len_t, ↓o_len_l, ↓o_len_s, ↓o_abs, ↓o_int_i, ↓o_int_b, ↓o_tuple, ↓o_list, ↓o_sum_t, ↓o_sum_l, ↓o_gcd, ↓o_divmod, ↓o_isB, ↓o_notB, ↓o_sl_t, ↓o_sl_l, ↓o_rev_l, ↓o_all, ↓o_any, ↓e_put, ↓pk_mset, ↓mset_s, ↓ix_1_0, ↓ix_2_0, ↓ix_2_1, ↓ix_3_0, ↓ix_3_1, ↓ix_3_2, ↓ix_4_0, ↓ix_4_1, ↓ix_4_2, ↓ix_4_3, ↓ix_5_0, ↓ix_5_1, ↓ix_5_2, ↓ix_5_3, ↓ix_5_4, ↓ix_6_0, ↓ix_6_1, ↓ix_6_2, ↓ix_6_3, ↓ix_6_4, ↓ix_6_5, ↓ix_7_0, ↓ix_7_1, ↓ix_7_2, ↓ix_7_3, ↓ix_7_4, ↓ix_7_5, ↓ix_7_6,
  List.length_cons, List.length_nil, List.map_cons, List.map_nil, List.cons_append, List.nil_append, List.append_nil, List.replicate_succ, List.replicate_zero, Nat.reduceSub, Nat.reduceAdd, Nat.reduceLeDiff, Nat.reduceEqDiff, wipeL, List.set_nil, List.set_cons_zero, List.set_cons_succ, List.getElem?_cons_zero, List.getElem?_cons_succ, List.filterMap_cons, List.filterMap_nil, startL, atI_c0, atI_c1, atI_c2, atI_c3, b2i, Option.some.injEq, D.int.injEq, D.bl.injEq, D.tup.injEq, D.lst.injEq, D.str.injEq, List.cons.injEq, and_true, true_and, and_assoc, ↓reduceIte, Bool.false_eq_true, Bool.not_true, Bool.not_false, if_true, if_false, decide_true, decide_false, Int.cast_ofNat_Int, Int.natCast_one, Int.natCast_zero, Int.reduceBEq, beq_self_eq_true, Int.reduceNeg, Int.reduceLT, Int.reduceLE, isNonB, noH, nT, Bool.true_and, Bool.false_and])

theorem tL_app (a b : List (List Nat)) : tL (a ++ b) = tL a ++ tL b := by unfold tL; rw [List.map_append]
theorem tL_set (ts : List (List Nat)) (r : Nat) (t : List Nat) : (tL ts).set r (nT t) = tL (ts.set r t) := by unfold tL; rw [List.map_set]
theorem set_all {α : Type} {p : α → Prop} {l : List α} {r : Nat} {x : α} (h : ∀ y ∈ l, p y) (hx : p x) : ∀ y ∈ l.set r x, p y := fun y hy => by
  rcases List.mem_or_eq_of_mem_set hy with h1 | h1
  · exact h y h1
  · rw [h1]
    exact hx
theorem app_all {α : Type} {p : α → Prop} {l : List α} {x : α} (h : ∀ y ∈ l, p y) (hx : p x) : ∀ y ∈ l ++ [x], p y := fun y hy => by
  rcases List.mem_append.mp hy with h1 | h1
  · exact h y h1
  · rw [List.mem_singleton.mp h1]
    exact hx
theorem pos_in : ∀ {t : List Nat}, 0 < t.sum → ∃ j, j < t.length ∧ 0 < t.getD j 0
  | [], h => by simp at h
  | c :: t, h => by
    by_cases hc : 0 < c
    · exact ⟨0, by simp, by simpa [List.getD] using hc⟩
    · rw [List.sum_cons] at h
      obtain ⟨j, h1, h2⟩ := pos_in (t := t) (by omega)
      exact ⟨j + 1, by simp; omega, by simpa [List.getD] using h2⟩
/-- the letters that stand in a table -/
def stand (t : List Nat) : List D := ((List.range t.length).filter fun j => decide (0 < t.getD j 0)).map fun j : Nat => D.int (j : Int)
theorem stand_pos {t : List Nat} (h : Tb t) : 0 < (stand t).length ∧ (stand t).length ≤ 1000 := by
  unfold stand
  rw [List.length_map]
  obtain ⟨j, h1, h2⟩ := pos_in h.pos
  refine ⟨List.length_pos_of_mem (a := j) (List.mem_filter.mpr ⟨List.mem_range.mpr h1, decide_eq_true h2⟩), ?_⟩
  refine Nat.le_trans (List.length_filter_le _ _) ?_
  rw [List.length_range]
  have := h.len
  omega
theorem stand_mem {t : List Nat} {x : D} (h : x ∈ stand t) : ∃ j : Nat, x = .int j ∧ j < t.length ∧ 0 < t.getD j 0 := by
  unfold stand at h
  obtain ⟨j, h1, rfl⟩ := List.mem_map.mp h
  obtain ⟨h2, h3⟩ := List.mem_filter.mp h1
  exact ⟨j, rfl, List.mem_range.mp h2, of_decide_eq_true h3⟩
def sp_Ulaw_row : DSp
  | [.hnd (.ref a)], m, Q => WlM m a ∧ ∀ (row : List Pr) m', RowOk row → WlM m' a → Q (.tup [.tup (rT row), .tup (rL row)]) m'
  | _, _, _ => False
theorem ln_Ulaw_row : ∀ ds m Qd, sp_Ulaw_row ds m Qd → ds.length = 1 := by
  intro ds m Qd h
  unfold sp_Ulaw_row at h
  split at h
  · rfl
  · exact h.elim
theorem rd_Ulaw_row : ∀ ds m Qd, sp_Ulaw_row ds m Qd → R_Ulaw_row sp_Ulaw_pick sp_Ulaw_counts sp_Ulaw_dip { nx := fun s => Qd .non s.m, rt := Qd } ⟨m, startL 7 ds⟩ := by
  intro ds m Qd h
  unfold sp_Ulaw_row at h
  split at h
  · unfold R_Ulaw_row
    rename_i a
    obtain ⟨hw, h⟩ := h
    walk_at "dd"
    refine ⟨hw, ⟨by decide, by decide⟩, fun x m1 hx hw1 => ?_⟩
    obtain ⟨sz, hs, rfl⟩ : ∃ n : Nat, n ≤ 40 ∧ x = .int n := by
      have : x = .int 0 ∨ x = .int 1 ∨ x = .int 2 ∨ x = .int 3 ∨ x = .int 4 ∨ x = .int 5 ∨ x = .int 6 ∨ x = .int 7 ∨ x = .int 9 ∨ x = .int 12 ∨ x = .int 20 ∨ x = .int 40 := by simpa using hx
      rcases this with rfl | rfl | rfl | rfl | rfl | rfl | rfl | rfl | rfl | rfl | rfl | rfl
      · exact ⟨0, by decide, rfl⟩
      · exact ⟨1, by decide, rfl⟩
      · exact ⟨2, by decide, rfl⟩
      · exact ⟨3, by decide, rfl⟩
      · exact ⟨4, by decide, rfl⟩
      · exact ⟨5, by decide, rfl⟩
      · exact ⟨6, by decide, rfl⟩
      · exact ⟨7, by decide, rfl⟩
      · exact ⟨9, by decide, rfl⟩
      · exact ⟨12, by decide, rfl⟩
      · exact ⟨20, by decide, rfl⟩
      · exact ⟨40, by decide, rfl⟩
    try walk_at "dd"
    rw [Int.toNat_natCast]
    refine ⟨⟨by omega, by omega⟩, lc_run (fun i acc m' => ∃ ts : List (List Nat), acc = tL ts ∧ ts.length = i ∧ (∀ t ∈ ts, Tb t) ∧ WlM m' a) rfl (by simp; omega) ⟨[], rfl, rfl, by simp, hw1⟩ ?_ ?_⟩
    · rintro i d acc m' hd _ ⟨ts, rfl, hlen, hall, hw'⟩ Q' hq
      have key : ∀ t m2, Tb t → WlM m2 a → ∀ s4 : S, s4.m = m2 → wipeL s4.sl [4] = wipeL [.val (.hnd (.ref a)), .val (.int sz), .no, .no, .no, .no, .no] [4] → Q' (nT t) s4 := fun t m2 ht hw2 s4 e1 e2 => by
        refine hq _ _ ⟨ts ++ [t], by rw [tL_app]; rfl, by rw [List.length_append, hlen]; rfl, app_all hall ht, by rw [e1]; exact hw2⟩ e2
      walk_at "dd"
      split
      · exact ⟨hw', ⟨by decide, by decide⟩, fun t m2 ht hw2 => key t m2 ht hw2 _ rfl rfl⟩
      · exact ⟨hw', ⟨by decide, by decide⟩, fun t m2 ht hw2 => key t m2 ht hw2 _ rfl rfl⟩
    · rintro acc m' _ ⟨ts, rfl, hlen, hall, hw⟩
      rw [List.length_map, List.length_range] at hlen
      walk_at "dd"
      split
      · rename_i hsz
        have hsz := of_decide_eq_true hsz
        refine dip_ok hw (by decide) (by decide) fun r m2 hr hw => ?_
        try walk_at "dd"
        split
        · refine ⟨hw, ⟨by decide, by decide⟩, fun t m3 ht hw3 => ?_⟩
          try walk_at "dd"
          refine dip_ok hw3 (by omega) (by omega) fun r4 m4 hr4 hw => ?_
          rw [tL_len]
          walk_at "dd"
          rw [ixN_n (show r4 < ts.length by omega)]
          walk_at "dd"
          rw [show D.tup (nL t) = nT t from rfl, tL_set]
          have hall := set_all (r := r4) hall ht
          have hlen : (ts.set r4 t).length = sz := by rw [List.length_set, hlen]
          generalize ts.set r4 t = ts at *
          refine lc_run (fun i acc m' => ∃ row : List Pr, row.map (·.1) = ts.take i ∧ acc = nL (row.map (·.2)) ∧ (∀ p ∈ row, PrOk p) ∧ WlM m' a) rfl (by rw [tL_len]; omega) ⟨[], rfl, rfl, by simp, hw⟩ ?_ ?_
          · rintro i d acc m' hd _ ⟨row, hrow, rfl, hok, hw'⟩ Q' hq
            obtain ⟨t, ht, rfl⟩ := tL_at hd
            have htb := hall t (List.mem_of_getElem? ht)
            have hti := (List.getElem?_eq_some_iff.mp ht).1
            have htl := htb.len
            walk_at "dd"
            rw [nL_len, Int.toNat_natCast]
            refine ⟨⟨by omega, by omega⟩, lc_filter (fun j => decide (0 < t.getD j 0)) (fun j => .int (j : Int)) rfl (by simp; omega) (fun j d hj Q2' N' hq2 => ?_) ?_⟩
            · obtain ⟨hj2, rfl⟩ := rng_at hj
              walk_at "dd"
              rw [at_nL hj2]
              walk_at "dd"
              rw [show (0 : Int) = ((0 : Nat) : Int) from rfl, dlt]
              exact hq2 _ rfl rfl
            · rw [List.length_map, List.length_range]
              walk_at "dd"
              refine ⟨hw', stand_pos htb, fun x m5 hx hw5 => ?_⟩
              obtain ⟨j, rfl, hj1, hj2⟩ := stand_mem hx
              refine hq _ _ ⟨row ++ [(t, j)], ?_, ?_, app_all hok ⟨htb, hj1, hj2⟩, hw5⟩ rfl
              · rw [List.map_append, hrow, List.take_succ_eq_append_getElem hti]
                congr 1
                show [t] = [ts[i]]
                rw [List.getElem?_eq_getElem hti] at ht
                rw [Option.some.inj ht]
              · rw [List.map_append, nL_app]
                rfl
          · rintro acc m' _ ⟨row, hrow, rfl, hok, hw'⟩
            rw [tL_len, List.take_length] at hrow
            walk_at "dd"
            have hl : row.length = ts.length := by rw [← hrow, List.length_map]
            have e : tL ts = rT row := by unfold rT; rw [hrow]
            rw [e]
            exact h row m' ⟨hok, by omega⟩ hw'
        · skip
          refine lc_run (fun i acc m' => ∃ row : List Pr, row.map (·.1) = ts.take i ∧ acc = nL (row.map (·.2)) ∧ (∀ p ∈ row, PrOk p) ∧ WlM m' a) rfl (by rw [tL_len]; omega) ⟨[], rfl, rfl, by simp, hw⟩ ?_ ?_
          · rintro i d acc m' hd _ ⟨row, hrow, rfl, hok, hw'⟩ Q' hq
            obtain ⟨t, ht, rfl⟩ := tL_at hd
            have htb := hall t (List.mem_of_getElem? ht)
            have hti := (List.getElem?_eq_some_iff.mp ht).1
            have htl := htb.len
            walk_at "dd"
            rw [nL_len, Int.toNat_natCast]
            refine ⟨⟨by omega, by omega⟩, lc_filter (fun j => decide (0 < t.getD j 0)) (fun j => .int (j : Int)) rfl (by simp; omega) (fun j d hj Q2' N' hq2 => ?_) ?_⟩
            · obtain ⟨hj2, rfl⟩ := rng_at hj
              walk_at "dd"
              rw [at_nL hj2]
              walk_at "dd"
              rw [show (0 : Int) = ((0 : Nat) : Int) from rfl, dlt]
              exact hq2 _ rfl rfl
            · rw [List.length_map, List.length_range]
              walk_at "dd"
              refine ⟨hw', stand_pos htb, fun x m5 hx hw5 => ?_⟩
              obtain ⟨j, rfl, hj1, hj2⟩ := stand_mem hx
              refine hq _ _ ⟨row ++ [(t, j)], ?_, ?_, app_all hok ⟨htb, hj1, hj2⟩, hw5⟩ rfl
              · rw [List.map_append, hrow, List.take_succ_eq_append_getElem hti]
                congr 1
                show [t] = [ts[i]]
                rw [List.getElem?_eq_getElem hti] at ht
                rw [Option.some.inj ht]
              · rw [List.map_append, nL_app]
                rfl
          · rintro acc m' _ ⟨row, hrow, rfl, hok, hw'⟩
            rw [tL_len, List.take_length] at hrow
            walk_at "dd"
            have hl : row.length = ts.length := by rw [← hrow, List.length_map]
            have e : tL ts = rT row := by unfold rT; rw [hrow]
            rw [e]
            exact h row m' ⟨hok, by omega⟩ hw'
      · skip
        refine lc_run (fun i acc m' => ∃ row : List Pr, row.map (·.1) = ts.take i ∧ acc = nL (row.map (·.2)) ∧ (∀ p ∈ row, PrOk p) ∧ WlM m' a) rfl (by rw [tL_len]; omega) ⟨[], rfl, rfl, by simp, hw⟩ ?_ ?_
        · rintro i d acc m' hd _ ⟨row, hrow, rfl, hok, hw'⟩ Q' hq
          obtain ⟨t, ht, rfl⟩ := tL_at hd
          have htb := hall t (List.mem_of_getElem? ht)
          have hti := (List.getElem?_eq_some_iff.mp ht).1
          have htl := htb.len
          walk_at "dd"
          rw [nL_len, Int.toNat_natCast]
          refine ⟨⟨by omega, by omega⟩, lc_filter (fun j => decide (0 < t.getD j 0)) (fun j => .int (j : Int)) rfl (by simp; omega) (fun j d hj Q2' N' hq2 => ?_) ?_⟩
          · obtain ⟨hj2, rfl⟩ := rng_at hj
            walk_at "dd"
            rw [at_nL hj2]
            walk_at "dd"
            rw [show (0 : Int) = ((0 : Nat) : Int) from rfl, dlt]
            exact hq2 _ rfl rfl
          · rw [List.length_map, List.length_range]
            walk_at "dd"
            refine ⟨hw', stand_pos htb, fun x m5 hx hw5 => ?_⟩
            obtain ⟨j, rfl, hj1, hj2⟩ := stand_mem hx
            refine hq _ _ ⟨row ++ [(t, j)], ?_, ?_, app_all hok ⟨htb, hj1, hj2⟩, hw5⟩ rfl
            · rw [List.map_append, hrow, List.take_succ_eq_append_getElem hti]
              congr 1
              show [t] = [ts[i]]
              rw [List.getElem?_eq_getElem hti] at ht
              rw [Option.some.inj ht]
            · rw [List.map_append, nL_app]
              rfl
        · rintro acc m' _ ⟨row, hrow, rfl, hok, hw'⟩
          rw [tL_len, List.take_length] at hrow
          walk_at "dd"
          have hl : row.length = ts.length := by rw [← hrow, List.length_map]
          have e : tL ts = rT row := by unfold rT; rw [hrow]
          rw [e]
          exact h row m' ⟨hok, by omega⟩ hw'
  · exact h.elim

end DL

/-! part M14 -/
namespace DL
open PySem PySem.Spec PyProof.Rows L2
local macro_rules | `(tactic| walk_at "dd") => `(tactic| simp only [↓e_seq, ↓e_next, ↓e_never, ↓e_ifs, ↓e_ret, ↓e_retN, ↓e_drop, ↓e_brk, ↓e_ct, ↓e_set, ↓e_setF, ↓e_par, ↓e_par3, ↓e_aug, ↓e_asg, ↓e_gNm, ↓e_gTp, ↓e_gsNil, ↓e_gsCons, ↓e_app, ↓e_setIx, ↓e_retM, ↓e_for, ↓e_var, ↓e_VGv, ↓e_VGo, ↓e_peek, ↓e_PG, ↓pk_int, ↓pk_bl, ↓pk_non, ↓pk_str, ↓pk_lst, ↓pk_tup, ↓pk_scr, ↓pk_own, ↓e_AGo, ↓e_AGh, ↓e_HG, ↓e_JG, ↓e_C, ↓e_bin, ↓e_b, ↓e_BG, ↓e_IG, ↓e_chn, ↓e_and, ↓e_or, ↓e_not, ↓e_andV, ↓e_orV, ↓e_notV, ↓e_if, ↓e_tru, ↓tg_bl, ↓tg_int, ↓tg_non, ↓tg_lst, ↓tg_tup, ↓e_nil, ↓e_cons, ↓e_tup, ↓e_lst, ↓lg_0, ↓lg_1, ↓lg_2, ↓lg_3, ↓lg_4, ↓lg_5, ↓lg_6, ↓lg_7, ↓lg_8, ↓lg_9, ↓lg_10, ↓lg_11, ↓lg_12, ↓lg_13, ↓lg_14, ↓lg_15, ↓lg_16, ↓e_fz, ↓e_one, ↓e_oneF, ↓e_ixN, ↓e_neg, ↓e_is, ↓yg_int_int, ↓yg_int_bl, ↓yg_int_non, ↓yg_int_str, ↓yg_int_lst, ↓yg_int_tup, ↓yg_bool_int, ↓yg_bool_bl, ↓yg_bool_non, ↓yg_bool_str, ↓yg_bool_lst, ↓yg_bool_tup, ↓yg_tuple_int, ↓yg_tuple_bl, ↓yg_tuple_non, ↓yg_tuple_str, ↓yg_tuple_lst, ↓yg_tuple_tup, ↓yg_list_int, ↓yg_list_bl, ↓yg_list_non, ↓yg_list_str, ↓yg_list_lst, ↓yg_list_tup, ↓yg_str_int, ↓yg_str_bl, ↓yg_str_non, ↓yg_str_str, ↓yg_str_lst, ↓yg_str_tup, ↓e_call, ↓e_callK, ↓e_isN, ↓e_items, ↓sg_lst, ↓sg_tup, ↓sg_scr, ↓e_slN, ↓e_sl, ↓e_oNone, ↓e_oSome, ↓e_yes, ↓e_lc, ↓e_rng1, ↓e_RG1, ↓e_rng2, ↓e_RG2, ↓e_revRng, ↓e_zip, ↓zg_tup, ↓zg_lst, ↓e_revF, ↓e_lstRg, ↓o_add_i, ↓o_add_b, ↓o_add_t, ↓o_add_l, ↓o_sub, ↓o_mul, ↓o_mul_l, ↓o_div, ↓o_mod, ↓o_pow, ↓o_lt, ↓o_le, ↓o_gt, ↓o_ge, ↓o_eq_i, ↓o_ne_i, ↓o_ix_t, ↓o_ix_l, ↓o_ix_s, ↓o_len_t, ↓o_len_l, ↓o_len_s, ↓o_abs, ↓o_int_i, ↓o_int_b, ↓o_tuple, ↓o_list, ↓o_sum_t, ↓o_sum_l, ↓o_gcd, ↓o_divmod, ↓o_isB, ↓o_notB, ↓o_sl_t, ↓o_sl_l, ↓o_rev_l, ↓o_all, ↓o_any, ↓e_put, ↓pk_mset, ↓mset_s, ↓ix_1_0, ↓ix_2_0, ↓ix_2_1, ↓ix_3_0, ↓ix_3_1, ↓ix_3_2, ↓ix_4_0, ↓ix_4_1, ↓ix_4_2, ↓ix_4_3, ↓ix_5_0, ↓ix_5_1, ↓ix_5_2, ↓ix_5_3, ↓ix_5_4, ↓ix_6_0, ↓ix_6_1, ↓ix_6_2, ↓ix_6_3, ↓ix_6_4, ↓ix_6_5, ↓ix_7_0, ↓ix_7_1, ↓ix_7_2, ↓ix_7_3, ↓ix_7_4, ↓ix_7_5, ↓ix_7_6,
  List.length_cons, List.length_nil, List.map_cons, List.map_nil, List.cons_append, List.nil_append, List.append_nil, List.replicate_succ, List.replicate_zero, Nat.reduceSub, Nat.reduceAdd, Nat.reduceLeDiff, Nat.reduceEqDiff, wipeL, List.set_nil, List.set_cons_zero, List.set_cons_succ, List.getElem?_cons_zero, List.getElem?_cons_succ, List.filterMap_cons, List.filterMap_nil, startL, atI_c0, atI_c1, atI_c2, atI_c3, b2i, Option.some.injEq, D.int.injEq, D.bl.injEq, D.tup.injEq, D.lst.injEq, D.str.injEq, List.cons.injEq, and_true, true_and, and_assoc, ↓reduceIte, Bool.false_eq_true, Bool.not_true, Bool.not_false, if_true, if_false, decide_true, decide_false, Int.cast_ofNat_Int, Int.natCast_one, Int.natCast_zero, Int.reduceBEq, beq_self_eq_true, Int.reduceNeg, Int.reduceLT, Int.reduceLE, isNonB, noH, nT, Bool.true_and, Bool.false_and])

/-! ### between the leans -/
theorem push_lean : ∀ {row : List Pr} (s : Nat), (∀ p ∈ row, PrOk p) → lL row ≤ (pushRow row s : Int) * lU row - lG row * s ∧ (pushRow row s : Int) * lU row - lG row * s ≤ lH row
  | [], s, _ => by
    show (0 : Int) ≤ (s : Int) * 1 - 1 * s ∧ (s : Int) * 1 - 1 * s ≤ 0
    omega
  | p :: r, s, h => by
    obtain ⟨h1, h2⟩ := push_lean (row := r) s fun q hq => h q (List.mem_cons_of_mem _ hq)
    obtain ⟨f1, f2, _⟩ := lean_facts (row := r) fun q hq => h q (List.mem_cons_of_mem _ hq)
    have okp := h p (by simp)
    have hm := okp.mp
    have hf := okp.fit
    show siz p * lL r + gapL p * lU r ≤ (pushN p (pushRow r s) : Int) * (lU r * mny p) - lG r * siz p * s ∧ (pushN p (pushRow r s) : Int) * (lU r * mny p) - lG r * siz p * s ≤ siz p * lH r + (ahd p * mny p : Int) * lU r
    generalize pushRow r s = t at *
    have e0 := Nat.div_add_mod t (mny p)
    have he := Nat.mod_lt t hm
    have ep : ((pushN p t : Nat) : Int) = (siz p : Int) * ((t / mny p : Nat) : Int) + ahd p + ((t % mny p : Nat) : Int) := by
      unfold pushN
      rw [Int.natCast_add, Int.natCast_add, Int.natCast_mul]
    have et : (t : Int) = (mny p : Int) * ((t / mny p : Nat) : Int) + ((t % mny p : Nat) : Int) := by
      rw [← Int.natCast_mul, ← Int.natCast_add, e0]
    rw [ep]
    generalize ((t / mny p : Nat) : Int) = q at *
    have he1 : ((t % mny p : Nat) : Int) ≤ mny p - 1 := by omega
    have he0 : (0 : Int) ≤ ((t % mny p : Nat) : Int) := Int.natCast_nonneg _
    generalize ((t % mny p : Nat) : Int) = e at *
    have hg : gapL p = ahd p * mny p - (siz p - mny p) * (mny p - 1) := rfl
    have hz0 : (0 : Int) ≤ (siz p : Int) := by omega
    have hzk : (0 : Int) ≤ (siz p : Int) - mny p := by omega
    generalize (siz p : Int) = z at *
    generalize hkk : (mny p : Int) = k at *
    generalize (ahd p : Int) = a at *
    generalize lU r = U at *
    generalize lG r = g at *
    generalize lL r = L at *
    generalize lH r = H at *
    rw [hg]
    rw [et] at h1 h2
    have hA : 0 ≤ z * ((k * q + e) * U - g * (s : Int) - L) := Int.mul_nonneg hz0 (by omega)
    have hB : 0 ≤ (z - k) * (k - 1 - e) * U := Int.mul_nonneg (Int.mul_nonneg hzk (by omega)) (Int.le_of_lt f2)
    have hC : 0 ≤ z * (H - ((k * q + e) * U - g * (s : Int))) := Int.mul_nonneg hz0 (by omega)
    have hD : 0 ≤ (z - k) * e * U := Int.mul_nonneg (Int.mul_nonneg hzk he0) (Int.le_of_lt f2)
    constructor
    · refine Int.le_of_sub_nonneg ?_
      have : (z * q + a + e) * (U * k) - g * z * (s : Int) - (z * L + (a * k - (z - k) * (k - 1)) * U) = z * ((k * q + e) * U - g * (s : Int) - L) + (z - k) * (k - 1 - e) * U := by grind
      rw [this]
      exact Int.add_nonneg hA hB
    · refine Int.le_of_sub_nonneg ?_
      have : z * H + a * k * U - ((z * q + a + e) * (U * k) - g * z * (s : Int)) = z * (H - ((k * q + e) * U - g * (s : Int))) + (z - k) * e * U := by grind
      rw [this]
      exact Int.add_nonneg hC hD

theorem ediv_bds (x : Int) {u : Int} (h : 0 < u) : x / u * u ≤ x ∧ x < x / u * u + u := by
  have h1 := Int.mul_ediv_add_emod x u
  have h2 := Int.emod_nonneg x (show u ≠ 0 by omega)
  have h3 := Int.emod_lt_of_pos x h
  rw [Int.mul_comm] at h1
  omega
def vsL (a b : Int) : List (Int × Bool) := [(a, true), (b, true), (a - 1, false), (b + 1, false)]
def vD (q : Int × Bool) : D := .tup [.int q.1, .bl q.2]
theorem ediv_lt {x u : Int} {n : Nat} (h : 0 < u) (lx : Lt n x) : Lt (n + 1) (x / u) := by
  have := ediv_bds x h
  unfold Lt at *
  rw [Nat.pow_succ]
  have h1 : (x / u).natAbs ≤ x.natAbs + 1 := by
    rcases Int.lt_or_le x 0 with h0 | h0
    · have : x ≤ x / u := by
        rcases Int.lt_or_le (x / u) x with h5 | h5
        · have : (x / u + 1) * u ≤ x * u := Int.mul_le_mul_of_nonneg_right (by omega) (Int.le_of_lt h)
          have h6 : x * u ≤ x * 1 := Int.mul_le_mul_of_nonpos_left (by omega) (by omega)
          have h7 : (x / u + 1) * u = x / u * u + u := by grind
          omega
        · exact h5
      have : x / u ≤ 0 := Int.ediv_nonpos_of_nonpos_of_neg (by omega) h
      omega
    · have := Int.ediv_nonneg h0 (Int.le_of_lt h)
      have := Int.ediv_le_self u h0
      omega
  omega
def sp_Ulaw_is_led : DSp := fun ds m Q => ∃ (row : List Pr) (s : Nat), ds = [.int s, .int (pushRow row s : Nat), .tup [.int (lG row), .int (lL row), .int (lH row), .int (lU row)], LnR row] ∧ RowOk row ∧ Lt 200 (s : Int) ∧ Q (.bl true) m
theorem ln_Ulaw_is_led : ∀ ds m Qd, sp_Ulaw_is_led ds m Qd → ds.length = 4 := by
  rintro ds m Qd ⟨row, s, rfl, _⟩
  rfl
theorem rd_Ulaw_is_led : ∀ ds m Qd, sp_Ulaw_is_led ds m Qd → R_Ulaw_is_led sp_lean_holds sp_lean_back { nx := fun s => Qd .non s.m, rt := Qd } ⟨m, startL 16 ds⟩ := by
  rintro ds m Qd ⟨row, s, rfl, ok, hs, h⟩
  unfold R_Ulaw_is_led
  obtain ⟨f1, f2, f3, f4, f5, f6, f7⟩ := lean_facts ok.ok
  have lok := lean_ok ok
  have hl := ok.len
  obtain ⟨p1, p2⟩ := push_lean s ok.ok
  have hp := pushRow_lt row s ok.ok
  have lp : Lt 1950 ((pushRow row s : Nat) : Int) := (lt_pow (a := 200) _ hp hs).up (by omega)
  have hp0 : (0 : Int) ≤ (pushRow row s : Nat) := Int.natCast_nonneg _
  unfold LnR
  generalize ((pushRow row s : Nat) : Int) = t at *
  have f3 : Lt 521 (lG row) := f3.up (by omega)
  have f5 : Lt 1121 (lL row) := f5.up (by omega)
  have f6 : Lt 1121 (lH row) := f6.up (by omega)
  have lgs : Lt 1121 (lG row * (s : Int)) := (f3.mul hs).up
  have hs0 : (0 : Int) ≤ (s : Int) := Int.natCast_nonneg s
  generalize lG row = G at *
  generalize lL row = L at *
  generalize lH row = H at *
  generalize lU row = U at *
  generalize (s : Int) = S0 at *
  walk_at "dd"
  have hcd : CDivZ U := ⟨by omega, by have := (lok.lb).log (by decide); omega⟩
  have b1 := ediv_bds (0 - G * S0 - L) f2
  have b2 := ediv_bds (G * S0 + H) f2
  have c1 : Lt 1124 ((0 - G * S0 - L) / U) := (ediv_lt f2 (show Lt 1123 (0 - G * S0 - L) from (Lt.sub (Lt.sub Lt.zero lgs) f5.up))).up
  have c2 : Lt 1124 ((G * S0 + H) / U) := (ediv_lt f2 (lgs.add f6)).up
  rw [Int.fdiv_eq_ediv_of_nonneg _ (Int.le_of_lt f2), Int.fdiv_eq_ediv_of_nonneg _ (Int.le_of_lt f2)]
  generalize (0 - G * S0 - L) / U = A at *
  generalize (G * S0 + H) / U = M' at *
  have hAt : 0 - A ≤ t := by
    rcases Int.lt_or_le t (0 - A) with h0 | h0
    · have h5 : t * U ≤ (0 - A - 1) * U := Int.mul_le_mul_of_nonneg_right (by omega) (Int.le_of_lt f2)
      have h6 : (0 - A - 1) * U = 0 - A * U - U := by grind
      omega
    · exact h0
  have htM : t ≤ M' := by
    rcases Int.lt_or_le M' t with h0 | h0
    · have h5 : (M' + 1) * U ≤ t * U := Int.mul_le_mul_of_nonneg_right (by omega) (Int.le_of_lt f2)
      have h6 : (M' + 1) * U = M' * U + U := by grind
      omega
    · exact h0
  have lbk : LnOk U G (-H) G (-L) G := ⟨f1, f1, f1, lok.lb, lok.la, lok.le.neg, lok.la, lok.lc.neg, lok.la, f2, Int.mul_le_mul_of_nonneg_right (by omega) (Int.le_of_lt f1)⟩
  have ho : ∀ v : Int, (decide (-H ≤ S0 * G - U * v) && decide (S0 * G - U * v ≤ -L)) = (decide (L ≤ v * U - G * S0) && decide (v * U - G * S0 ≤ H)) := fun v => by
    have e : S0 * G - U * v = -(v * U - G * S0) := by grind
    rw [e, Bool.and_comm]
    congr 1
    · exact decide_eq_decide.mpr (by omega)
    · exact decide_eq_decide.mpr (by omega)
  have hq : ∀ q ∈ vsL (0 - A) M', Lt 1950 q.1 ∧ (decide (L ≤ q.1 * U - G * S0) && decide (q.1 * U - G * S0 ≤ H)) = q.2 := fun q hq => by
    have e1 : (0 - A) * U = 0 - A * U := by grind
    have e2 : (0 - A - 1) * U = 0 - A * U - U := by grind
    have e3 : (M' + 1) * U = M' * U + U := by grind
    have m1 : (0 - A) * U ≤ t * U := Int.mul_le_mul_of_nonneg_right hAt (Int.le_of_lt f2)
    have m2 : t * U ≤ M' * U := Int.mul_le_mul_of_nonneg_right htM (Int.le_of_lt f2)
    have l1 : Lt 1124 (1 : Int) := Lt.one.up
    have : q = (0 - A, true) ∨ q = (M', true) ∨ q = (0 - A - 1, false) ∨ q = (M' + 1, false) := by simpa [vsL] using hq
    rcases this with rfl | rfl | rfl | rfl
    · refine ⟨((Lt.zero (a := 1124)).sub c1).up, ?_⟩
      show (decide (L ≤ (0 - A) * U - G * S0) && decide ((0 - A) * U - G * S0 ≤ H)) = true
      rw [decide_eq_true (by omega), decide_eq_true (by omega)]
      rfl
    · refine ⟨c2.up, ?_⟩
      show (decide (L ≤ M' * U - G * S0) && decide (M' * U - G * S0 ≤ H)) = true
      rw [decide_eq_true (by omega), decide_eq_true (by omega)]
      rfl
    · refine ⟨(((Lt.zero (a := 1124)).sub c1).sub l1.up).up, ?_⟩
      show (decide (L ≤ (0 - A - 1) * U - G * S0) && decide ((0 - A - 1) * U - G * S0 ≤ H)) = false
      rw [decide_eq_false (show ¬ L ≤ (0 - A - 1) * U - G * S0 by omega)]
      rfl
    · refine ⟨(c2.add l1).up, ?_⟩
      show (decide (L ≤ (M' + 1) * U - G * S0) && decide ((M' + 1) * U - G * S0 ≤ H)) = false
      rw [decide_eq_false (show ¬ (M' + 1) * U - G * S0 ≤ H by omega), Bool.and_false]
  refine ⟨f3.cm hs, hcd, f3.cm hs, hcd, ?_⟩
  rw [decide_eq_true hAt, decide_eq_true htM]
  walk_at "dd"
  refine ⟨G, L, H, U, S0, t, rfl, lok, ⟨hs0, hp0⟩, ⟨hs.up, lp⟩, ?_⟩
  rw [decide_eq_true p1, decide_eq_true p2]
  walk_at "dd"
  refine ⟨G, L, H, U, rfl, lok, ?_⟩
  try walk_at "dd"
  rw [show [D.tup [D.int (0 - A), D.bl true], D.tup [D.int M', D.bl true], D.tup [D.int (0 - A - 1), D.bl false], D.tup [D.int (M' + 1), D.bl false]] = (vsL (0 - A) M').map vD from rfl]
  have at4 : ∀ {i : Nat} {d : D}, ((vsL (0 - A) M').map vD)[i]? = some d → ∃ q, (vsL (0 - A) M')[i]? = some q ∧ d = vD q := fun {i d} hd => by
    rw [List.getElem?_map] at hd
    cases e : (vsL (0 - A) M')[i]? with
    | none => rw [e] at hd; cases hd
    | some q => rw [e] at hd; cases hd; exact ⟨q, rfl, rfl⟩
  refine lc_filter (fun i => decide (0 ≤ ((vsL (0 - A) M').getD i (0, true)).1)) (fun i => vD ((vsL (0 - A) M').getD i (0, true))) rfl (by rw [List.length_map]; show 4 ≤ 1000000; decide) (fun i d hd Q' N' hq' => ?_) ?_
  · obtain ⟨q, e1, rfl⟩ := at4 hd
    have e2 : (vsL (0 - A) M').getD i (0, true) = q := by unfold List.getD; rw [e1]; rfl
    unfold vD
    walk_at "dd"
    have z := hq' ⟨m, [.val (.int S0), .val (.int t), .val (.tup [.int G, .int L, .int H, .int U]), .val (Ln G U L U H U), .val (.int G), .val (.int L), .val (.int H), .val (.int U), .val (.int (0 - A)), .val (.int M'), .val (.lst ((vsL (0 - A) M').map vD)), .val (Ln U G (-H) G (-L) G), .no, .no, .no, .val (vD q)]⟩ rfl rfl
    rw [e2] at z
    exact z
  · try walk_at "dd"
    refine ⟨fun i s => ∃ x y z w, s = ⟨m, [.val (.int S0), .val (.int t), .val (.tup [.int G, .int L, .int H, .int U]), .val (Ln G U L U H U), .val (.int G), .val (.int L), .val (.int H), .val (.int U), .val (.int (0 - A)), .val (.int M'), .val (.lst ((vsL (0 - A) M').map vD)), .val (Ln U G (-H) G (-L) G), x, y, z, w]⟩, ⟨_, _, _, _, rfl⟩, ?_, ?_⟩
    · rintro i d s2 hd ⟨x, y, z, w, rfl⟩
      obtain ⟨j, hj, rfl⟩ := List.mem_map.mp (List.mem_of_getElem? hd)
      obtain ⟨hj1, hj2⟩ := List.mem_filter.mp hj
      have hj3 := List.mem_range.mp hj1
      rw [List.length_map] at hj3
      have hmem : (vsL (0 - A) M').getD j (0, true) ∈ vsL (0 - A) M' := by
        unfold List.getD
        rw [List.getElem?_eq_getElem hj3]
        exact List.getElem_mem hj3
      have hj4 := of_decide_eq_true hj2
      generalize (vsL (0 - A) M').getD j (0, true) = q at *
      obtain ⟨lq, eq⟩ := hq q hmem
      unfold vD
      walk_at "dd"
      refine ⟨G, L, H, U, S0, q.1, rfl, lok, ⟨hs0, hj4⟩, ⟨hs.up, lq⟩, ?_⟩
      rw [eq]
      try walk_at "dd"
      refine ⟨U, -H, -L, G, q.1, S0, rfl, lbk, ⟨hj4, hs0⟩, ⟨lq, hs.up⟩, ?_⟩
      rw [ho, eq]
      walk_at "dd"
      have hpl : (D.lst [.bl q.2, .bl q.2]).pl 60 = true := rfl
      refine repr_pl hpl (by show 6 + 2 + (6 + 2 + 0) + 4 ≤ _; decide) ?_
      try walk_at "dd"
      refine repr_pl hpl (by show 6 + 2 + (6 + 2 + 0) + 4 ≤ _; decide) (rep_ne hpl ?_)
      walk_at "dd"
      exact ⟨_, _, _, _, rfl⟩
    · rintro s2 ⟨x, y, z, w, rfl⟩
      walk_at "dd"
      exact h

end DL

/-! part M15 -/
namespace DL
open PySem PySem.Spec PyProof.Rows L2
local macro_rules | `(tactic| walk_at "dd") => `(tactic| simp only [↓e_seq, ↓e_next, ↓e_never, ↓e_ifs, ↓e_ret, ↓e_retN, ↓e_drop, ↓e_brk, ↓e_ct, ↓e_set, ↓e_setF, ↓e_par, ↓e_par3, ↓e_aug, ↓e_asg, ↓e_gNm, ↓e_gTp, ↓e_gsNil, ↓e_gsCons, ↓e_app, ↓e_setIx, ↓e_retM, ↓e_for, ↓e_var, ↓e_VGv, ↓e_VGo, ↓e_peek, ↓e_PG, ↓pk_int, ↓pk_bl, ↓pk_non, ↓pk_str, ↓pk_lst, ↓pk_tup, ↓pk_scr, ↓pk_own, ↓e_AGo, ↓e_AGh, ↓e_HG, ↓e_JG, ↓e_C, ↓e_bin, ↓e_b, ↓e_BG, ↓e_IG, ↓e_chn, ↓e_and, ↓e_or, ↓e_not, ↓e_andV, ↓e_orV, ↓e_notV, ↓e_if, ↓e_tru, ↓tg_bl, ↓tg_int, ↓tg_non, ↓tg_lst, ↓tg_tup, ↓e_nil, ↓e_cons, ↓e_tup, ↓e_lst, ↓lg_0, ↓lg_1, ↓lg_2, ↓lg_3, ↓lg_4, ↓lg_5, ↓lg_6, ↓lg_7, ↓lg_8, ↓lg_9, ↓lg_10, ↓lg_11, ↓lg_12, ↓lg_13, ↓lg_14, ↓lg_15, ↓lg_16, ↓e_fz, ↓e_one, ↓e_oneF, ↓e_ixN, ↓e_neg, ↓e_is, ↓yg_int_int, ↓yg_int_bl, ↓yg_int_non, ↓yg_int_str, ↓yg_int_lst, ↓yg_int_tup, ↓yg_bool_int, ↓yg_bool_bl, ↓yg_bool_non, ↓yg_bool_str, ↓yg_bool_lst, ↓yg_bool_tup, ↓yg_tuple_int, ↓yg_tuple_bl, ↓yg_tuple_non, ↓yg_tuple_str, ↓yg_tuple_lst, ↓yg_tuple_tup, ↓yg_list_int, ↓yg_list_bl, ↓yg_list_non, ↓yg_list_str, ↓yg_list_lst, ↓yg_list_tup, ↓yg_str_int, ↓yg_str_bl, ↓yg_str_non, ↓yg_str_str, ↓yg_str_lst, ↓yg_str_tup, ↓e_call, ↓e_callK, ↓e_isN, ↓e_items, ↓sg_lst, ↓sg_tup, ↓sg_scr, ↓e_slN, ↓e_sl, ↓e_oNone, ↓e_oSome, ↓e_yes, ↓e_lc, ↓e_rng1, ↓e_RG1, ↓e_rng2, ↓e_RG2, ↓e_revRng, ↓e_zip, ↓zg_tup, ↓zg_lst, ↓e_revF, ↓e_lstRg, ↓o_add_i, ↓o_add_b, ↓o_add_t, ↓o_add_l, ↓o_sub, ↓o_mul, ↓o_mul_l, ↓o_div, ↓o_mod, ↓o_pow, ↓o_lt, ↓o_le, ↓o_gt, ↓o_ge, ↓o_eq_i, ↓o_ne_i, ↓o_ix_t, ↓o_ix_l, ↓o_ix_s, ↓o_len_t, ↓o_len_l, ↓o_len_s, ↓o_abs, ↓o_int_i, ↓o_int_b, ↓o_tuple, ↓o_list, ↓o_sum_t, ↓o_sum_l, ↓o_gcd, ↓o_divmod, ↓o_isB, ↓o_notB, ↓o_sl_t, ↓o_sl_l, ↓o_rev_l, ↓o_all, ↓o_any, ↓e_put, ↓pk_mset, ↓mset_s, ↓ix_1_0, ↓ix_2_0, ↓ix_2_1, ↓ix_3_0, ↓ix_3_1, ↓ix_3_2, ↓ix_4_0, ↓ix_4_1, ↓ix_4_2, ↓ix_4_3, ↓ix_5_0, ↓ix_5_1, ↓ix_5_2, ↓ix_5_3, ↓ix_5_4, ↓ix_6_0, ↓ix_6_1, ↓ix_6_2, ↓ix_6_3, ↓ix_6_4, ↓ix_6_5, ↓ix_7_0, ↓ix_7_1, ↓ix_7_2, ↓ix_7_3, ↓ix_7_4, ↓ix_7_5, ↓ix_7_6,
  List.length_cons, List.length_nil, List.map_cons, List.map_nil, List.cons_append, List.nil_append, List.append_nil, List.replicate_succ, List.replicate_zero, Nat.reduceSub, Nat.reduceAdd, Nat.reduceLeDiff, Nat.reduceEqDiff, wipeL, List.set_nil, List.set_cons_zero, List.set_cons_succ, List.getElem?_cons_zero, List.getElem?_cons_succ, List.filterMap_cons, List.filterMap_nil, startL, atI_c0, atI_c1, atI_c2, atI_c3, b2i, Option.some.injEq, D.int.injEq, D.bl.injEq, D.tup.injEq, D.lst.injEq, D.str.injEq, List.cons.injEq, and_true, true_and, and_assoc, ↓reduceIte, Bool.false_eq_true, Bool.not_true, Bool.not_false, if_true, if_false, decide_true, decide_false, Int.cast_ofNat_Int, Int.natCast_one, Int.natCast_zero, Int.reduceBEq, beq_self_eq_true, Int.reduceNeg, Int.reduceLT, Int.reduceLE, isNonB, noH, nT, Bool.true_and, Bool.false_and])

theorem pk_q2 {m : M} {x y : Int} : peekL m (some (.val (Q2 x y))) = some (Q2 x y) := rfl
theorem pk_ln {m : M} {a b c d e f : Int} : peekL m (some (.val (Ln a b c d e f))) = some (Ln a b c d e f) := rfl
local macro_rules | `(tactic| walk_at "dq") => `(tactic| simp only [pk_q2, pk_ln, ↓e_seq, ↓e_next, ↓e_never, ↓e_ifs, ↓e_ret, ↓e_retN, ↓e_drop, ↓e_brk, ↓e_ct, ↓e_set, ↓e_setF, ↓e_par, ↓e_par3, ↓e_aug, ↓e_asg, ↓e_gNm, ↓e_gTp, ↓e_gsNil, ↓e_gsCons, ↓e_app, ↓e_setIx, ↓e_retM, ↓e_for, ↓e_var, ↓e_VGv, ↓e_VGo, ↓e_peek, ↓e_PG, ↓pk_int, ↓pk_bl, ↓pk_non, ↓pk_str, ↓pk_lst, ↓pk_tup, ↓pk_scr, ↓pk_own, ↓e_AGo, ↓e_AGh, ↓e_HG, ↓e_JG, ↓e_C, ↓e_bin, ↓e_b, ↓e_BG, ↓e_IG, ↓e_chn, ↓e_and, ↓e_or, ↓e_not, ↓e_andV, ↓e_orV, ↓e_notV, ↓e_if, ↓e_tru, ↓tg_bl, ↓tg_int, ↓tg_non, ↓tg_lst, ↓tg_tup, ↓e_nil, ↓e_cons, ↓e_tup, ↓e_lst, ↓lg_0, ↓lg_1, ↓lg_2, ↓lg_3, ↓lg_4, ↓lg_5, ↓lg_6, ↓lg_7, ↓lg_8, ↓lg_9, ↓lg_10, ↓lg_11, ↓lg_12, ↓lg_13, ↓lg_14, ↓lg_15, ↓lg_16, ↓e_fz, ↓e_one, ↓e_oneF, ↓e_ixN, ↓e_neg, ↓e_is, ↓yg_int_int, ↓yg_int_bl, ↓yg_int_non, ↓yg_int_str, ↓yg_int_lst, ↓yg_int_tup, ↓yg_bool_int, ↓yg_bool_bl, ↓yg_bool_non, ↓yg_bool_str, ↓yg_bool_lst, ↓yg_bool_tup, ↓yg_tuple_int, ↓yg_tuple_bl, ↓yg_tuple_non, ↓yg_tuple_str, ↓yg_tuple_lst, ↓yg_tuple_tup, ↓yg_list_int, ↓yg_list_bl, ↓yg_list_non, ↓yg_list_str, ↓yg_list_lst, ↓yg_list_tup, ↓yg_str_int, ↓yg_str_bl, ↓yg_str_non, ↓yg_str_str, ↓yg_str_lst, ↓yg_str_tup, ↓e_call, ↓e_callK, ↓e_isN, ↓e_items, ↓sg_lst, ↓sg_tup, ↓sg_scr, ↓e_slN, ↓e_sl, ↓e_oNone, ↓e_oSome, ↓e_yes, ↓e_lc, ↓e_rng1, ↓e_RG1, ↓e_rng2, ↓e_RG2, ↓e_revRng, ↓e_zip, ↓zg_tup, ↓zg_lst, ↓e_revF, ↓e_lstRg, ↓o_add_i, ↓o_add_b, ↓o_add_t, ↓o_add_l, ↓o_sub, ↓o_mul, ↓o_mul_l, ↓o_div, ↓o_mod, ↓o_pow, ↓o_lt, ↓o_le, ↓o_gt, ↓o_ge, ↓o_eq_i, ↓o_ne_i, ↓o_ix_t, ↓o_ix_l, ↓o_ix_s, ↓o_len_t, ↓o_len_l, ↓o_len_s, ↓o_abs, ↓o_int_i, ↓o_int_b, ↓o_tuple, ↓o_list, ↓o_sum_t, ↓o_sum_l, ↓o_gcd, ↓o_divmod, ↓o_isB, ↓o_notB, ↓o_sl_t, ↓o_sl_l, ↓o_rev_l, ↓o_all, ↓o_any, ↓e_put, ↓pk_mset, ↓mset_s, ↓ix_1_0, ↓ix_2_0, ↓ix_2_1, ↓ix_3_0, ↓ix_3_1, ↓ix_3_2, ↓ix_4_0, ↓ix_4_1, ↓ix_4_2, ↓ix_4_3, ↓ix_5_0, ↓ix_5_1, ↓ix_5_2, ↓ix_5_3, ↓ix_5_4, ↓ix_6_0, ↓ix_6_1, ↓ix_6_2, ↓ix_6_3, ↓ix_6_4, ↓ix_6_5, ↓ix_7_0, ↓ix_7_1, ↓ix_7_2, ↓ix_7_3, ↓ix_7_4, ↓ix_7_5, ↓ix_7_6,
  List.length_cons, List.length_nil, List.map_cons, List.map_nil, List.cons_append, List.nil_append, List.append_nil, List.replicate_succ, List.replicate_zero, Nat.reduceSub, Nat.reduceAdd, Nat.reduceLeDiff, Nat.reduceEqDiff, wipeL, List.set_nil, List.set_cons_zero, List.set_cons_succ, List.getElem?_cons_zero, List.getElem?_cons_succ, List.filterMap_cons, List.filterMap_nil, startL, atI_c0, atI_c1, atI_c2, atI_c3, b2i, Option.some.injEq, D.int.injEq, D.bl.injEq, D.tup.injEq, D.lst.injEq, D.str.injEq, List.cons.injEq, and_true, true_and, and_assoc, ↓reduceIte, Bool.false_eq_true, Bool.not_true, Bool.not_false, if_true, if_false, decide_true, decide_false, Int.cast_ofNat_Int, Int.natCast_one, Int.natCast_zero, Int.reduceBEq, beq_self_eq_true, Int.reduceNeg, Int.reduceLT, Int.reduceLE, isNonB, noH, nT, Bool.true_and, Bool.false_and])

def isOwn : Sl → Bool
  | .own _ => true
  | _ => false
theorem ix0_q2 {x y : Int} {q : D → Prop} (hy : 0 < y) (h : ∀ z : Int, (0 < z ↔ 0 < x) → q (.int z)) : dIx (Q2 x y) (.int 0) q := by
  obtain ⟨z, w, g, hg, ex, ey, hzw, hw, e1⟩ := q2_cases (a := x) hy
  rw [e1]
  refine ⟨.int z, atI_c0, h z ⟨fun hz => ?_, fun hx => pos_of_mul hg (by rw [← ex]; exact hx)⟩⟩
  rw [ex]
  exact Int.mul_pos hg hz
theorem least {P : Nat → Prop} (h : ∃ n, P n) : ∃ n, P n ∧ ∀ j, j < n → ¬ P j := by
  obtain ⟨n, hn⟩ := h
  induction n using Nat.strongRecOn with
  | _ n ih =>
    by_cases hj : ∃ j, j < n ∧ P j
    · obtain ⟨j, h1, h2⟩ := hj
      exact ih j h1 h2
    · exact ⟨n, hn, fun j h1 h2 => hj ⟨j, h1, h2⟩⟩
theorem rch_ex {b : Nat} (hb : 2 ≤ b) {x u : Int} (hu : 0 < u) : ∃ k, Rch b x u k := by
  have h : ∃ k, x ≤ u * ((b ^ k : Nat) : Int) := by
    refine ⟨x.toNat, ?_⟩
    have h1 : x.toNat < 2 ^ x.toNat := Nat.lt_two_pow_self
    have h2 : 2 ^ x.toNat ≤ b ^ x.toNat := Nat.pow_le_pow_left hb _
    have h3 : (1 : Int) * ((b ^ x.toNat : Nat) : Int) ≤ u * ((b ^ x.toNat : Nat) : Int) := Int.mul_le_mul_of_nonneg_right (by omega) (by omega)
    omega
  obtain ⟨k, h1, h2⟩ := least h
  exact ⟨k, h1, fun j hj => by have := h2 j hj; omega⟩
theorem dig_bds {b : Nat} (hb : 2 ≤ b) : ∀ (es : List Nat) (s : Nat), (∀ d ∈ es, d < b) → b ^ es.length * ((b - 1) * s + 1) ≤ (b - 1) * undig b es s + 1 ∧ (b - 1) * undig b es s + 1 < b ^ es.length * ((b - 1) * s + b)
  | [], s, _ => by
    show 1 * ((b - 1) * s + 1) ≤ (b - 1) * s + 1 ∧ (b - 1) * s + 1 < 1 * ((b - 1) * s + b)
    omega
  | d :: es, s, h => by
    have hd := h d (by simp)
    obtain ⟨h1, h2⟩ := dig_bds hb es (s * b + d + 1) fun x hx => h x (List.mem_cons_of_mem _ hx)
    obtain ⟨c, rfl⟩ : ∃ c, b = c + 2 := ⟨b - 2, by omega⟩
    have e0 : c + 2 - 1 = c + 1 := by omega
    rw [e0] at h1 h2 ⊢
    rw [List.length_cons, Nat.pow_succ]
    have hcd : (c + 1) * d ≤ (c + 1) * (c + 1) := Nat.mul_le_mul_left _ (by omega)
    have e1 : (c + 1) * (s * (c + 2) + d + 1) = (c + 2) * ((c + 1) * s) + (c + 1) * d + (c + 1) := by grind
    have e2 : (c + 2) * ((c + 1) * s + 1) = (c + 2) * ((c + 1) * s) + (c + 2) := by grind
    have e3 : (c + 2) * ((c + 1) * s + (c + 2)) = (c + 2) * ((c + 1) * s) + ((c + 1) * (c + 1) + (c + 1) + (c + 2)) := by grind
    constructor
    · refine Nat.le_trans ?_ h1
      rw [Nat.mul_assoc]
      refine Nat.mul_le_mul_left _ ?_
      rw [e1, e2]
      omega
    · refine Nat.lt_of_lt_of_le h2 ?_
      rw [Nat.mul_assoc]
      refine Nat.mul_le_mul_left _ ?_
      rw [e1, e3]
      omega
theorem dig_len {b : Nat} (hb : 2 ≤ b) {es : List Nat} {a : Nat} (h : Lt a ((undig b es 0 : Nat) : Int)) : es.length ≤ a := by
  have h1 := undig_ge hb es 0
  have h2 : undig b es 0 < 2 ^ a := h
  rw [Nat.zero_add, Nat.mul_one] at h1
  exact (Nat.pow_le_pow_iff_right (by decide : 1 < 2)).mp (by omega)
def sp_Ulaw_is_told : DSp := fun ds m Q => ∃ (b s : Nat) (row : List Pr), ds = [.int b, .int s, .int (pushRow row s : Nat), LnR row] ∧ (2 ≤ b ∧ b ≤ 256) ∧ RowOk row ∧ Lt 200 (s : Int) ∧ Q (.bl true) m
theorem ln_Ulaw_is_told : ∀ ds m Qd, sp_Ulaw_is_told ds m Qd → ds.length = 4 := by
  rintro ds m Qd ⟨b, s, row, rfl, _⟩
  rfl
theorem rd_Ulaw_is_told : ∀ ds m Qd, sp_Ulaw_is_told ds m Qd → R_Ulaw_is_told sp_row_of sp_stack_of sp_reach_of sp_places_of sp_plus sp_times sp_Ulaw_is_long { nx := fun s => Qd .non s.m, rt := Qd } ⟨m, startL 14 ds⟩ := by
  rintro ds m Qd ⟨b, s, row, rfl, hb, ok, hs, h⟩
  unfold R_Ulaw_is_told
  obtain ⟨f1, f2, f3, f4, f5, f6, f7⟩ := lean_facts ok.ok
  have lok := lean_ok ok
  have hl := ok.len
  obtain ⟨p1, p2⟩ := push_lean s ok.ok
  have hp := pushRow_lt row s ok.ok
  have lp : Lt 720 ((pushRow row s : Nat) : Int) := (lt_pow (a := 200) _ hp hs).up (by omega)
  unfold LnR
  generalize pushRow row s = t at *
  obtain ⟨es, hd, rfl⟩ := dig_ex hb.1 t
  have hel := dig_len hb.1 lp
  have dok : DgOk b es := ⟨hb, hd, by omega⟩
  have f3 : Lt 521 (lG row) := f3.up (by omega)
  have f4 : Lt 521 (lU row) := f4.up (by omega)
  have f5 : Lt 1121 (lL row) := f5.up (by omega)
  have f6 : Lt 1121 (lH row) := f6.up (by omega)
  have lgs : Lt 721 (lG row * (s : Int)) := (f3.mul hs).up
  generalize lG row = G at *
  generalize lL row = L at *
  generalize lH row = H at *
  generalize lU row = U at *
  walk_at "dd"
  refine ⟨b, es, rfl, dok, ?_⟩
  try walk_at "dd"
  refine lc_filter (fun _ => false) (fun _ => .non) rfl (by rw [nL_len]; omega) (fun i d hd' Q' N' hq' => ?_) ?_
  · obtain ⟨hi, rfl⟩ := nL_at hd'
    have hdi := hd _ (show es.getD i 0 ∈ es by unfold List.getD; rw [List.getElem?_eq_getElem hi]; exact List.getElem_mem hi)
    walk_at "dd"
    rw [decide_eq_true (Int.natCast_nonneg _), dlt, decide_eq_true hdi]
    walk_at "dd"
    exact hq' _ rfl rfl
  rw [show (List.filter (fun _ => false) (List.range (nL es).length)) = [] by simp]
  walk_at "dd"
  refine ne_self rfl ?_
  walk_at "dd"
  refine ⟨fun i st => ∃ x, st = ⟨m, [.val (.int b), .val (.int s), .val (.int (undig b es 0 : Nat)), .val (Ln G U L U H U), .val (.tup (nL es)), .val (.int (undig b (es.take i) 0 : Nat)), x, .no, .no, .no, .no, .no, .no, .no]⟩, ⟨_, rfl⟩, ?_, ?_⟩
  · rintro i d s2 hd' ⟨x, rfl⟩
    obtain ⟨hi, rfl⟩ := nL_at hd'
    walk_at "dd"
    have hu := undig_lt (a := 1) (s := 0) hb.2 (fun d h => hd d (List.mem_of_mem_take h)) (show (es.take i).length ≤ 1000 by rw [List.length_take]; omega) Lt.zero
    refine ⟨(lt9 hb.2).cm hu, ?_⟩
    have e1 := (undig_step (s := 0) hi hd).1
    have e2 : es.getD i 0 = es[i] := by unfold List.getD; rw [List.getElem?_eq_getElem hi]; rfl
    rw [e1, e2, Int.mul_comm]
    exact ⟨_, rfl⟩
  rintro s2 ⟨x, rfl⟩
  walk_at "dd"
  rw [nL_len, List.take_length, beq_self_eq_true]
  walk_at "dd"
  refine ⟨b, es, rfl, dok, ?_⟩
  walk_at "dd"
  have hbi : (b : Int) - 1 = ((b - 1 : Nat) : Int) := by omega
  obtain ⟨d1, d2⟩ := dig_bds hb.1 es 0 hd
  rw [Nat.mul_zero, Nat.zero_add, Nat.mul_one] at d1
  rw [Nat.mul_zero, Nat.zero_add, ← Nat.pow_succ] at d2
  have ew : ((b : Int) - 1) * ((undig b es 0 : Nat) : Int) + 1 = (((b - 1) * undig b es 0 + 1 : Nat) : Int) := by
    rw [hbi, ← Int.natCast_mul, Int.natCast_add]
    rfl
  have lw : Lt 730 ((((b - 1) * undig b es 0 + 1 : Nat)) : Int) := by
    rw [← ew, hbi]
    exact (((lt9 (show b - 1 ≤ 256 by omega)).mul lp).add Lt.one.up).up
  have lw2 : Lt 731 ((((b - 1) * undig b es 0 + 1 : Nat)) + 1 : Int) := lw.add Lt.one.up
  have mono : ∀ {i j : Nat}, i ≤ j → b ^ i ≤ b ^ j := fun h => Nat.pow_le_pow_right (by omega) h
  have key : (b - 1) * undig b es 0 + 1 = (b - 1) * undig b es 0 + 1 := rfl
  rw [ew]
  have ewT : (b - 1) * undig b es 0 + 1 = (b - 1) * undig b es 0 + 1 := rfl
  generalize hw : (b - 1) * undig b es 0 + 1 = w at *
  have d2 : w < b ^ (es.length + 1) := d2
  refine ⟨by rw [hbi]; exact (lt9 (by omega)).cm lp, ?_⟩
  refine ⟨b, w, es.length + 1, rfl, hb, ⟨d2, fun j hj => Nat.le_trans (mono (by omega)) d1⟩, ?_⟩
  refine ⟨b, es.length + 1, (w : Int) + 1, 1, by rw [q2_one], hb, ⟨by omega, by decide⟩, lw2.up, ⟨by omega, fun j hj => by have := Nat.le_trans (mono (show j ≤ es.length by omega)) d1; omega⟩, ?_⟩
  refine ⟨by decide, by decide, by decide, ?_⟩
  rw [nL_len, show (List.replicate (Int.toNat 2) [D.int ((es.length : Int) + 1)]).flatten = [D.int ((es.length + 1 : Nat) : Int), D.int ((es.length + 1 : Nat) : Int)] by rw [Int.natCast_add]; rfl]
  refine ne_self rfl ?_
  walk_at "dq"
  unfold Ln
  walk_at "dd"
  rw [show cut [Q2 G U, Q2 L U, Q2 H U] (some 1) none = [L, H].map (fun e => Q2 e U) from rfl]
  have hs0 : (0 : Int) ≤ (s : Int) := Int.natCast_nonneg s
  have lb9 : Lt 9 ((b : Int) - 1) := by rw [hbi]; exact lt9 (by omega)
  have hb0 : (0 : Int) < (b : Int) - 1 := by omega
  have leH : ∀ e ∈ [L, H], Lt 1121 e := fun e he => by
    rcases (by simpa using he : e = L ∨ e = H) with rfl | rfl
    · exact f5
    · exact f6
  refine ⟨fun i st => ∃ u v, isOwn v = false ∧ st = ⟨m, [.val (.int b), .val (.int s), .val (.int (undig b es 0 : Nat)), .val (.tup [Q2 G U, Q2 L U, Q2 H U]), .val (.tup (nL es)), .val (.int (undig b es 0 : Nat)), x, .val (.int w), .own (([L, H].take i).map fun e => Q2 (((b : Int) - 1) * (G * s + e) + U) U), u, v, .no, .no, .no]⟩, ?_, ?_, ?_⟩
  · exact ⟨_, _, rfl, rfl⟩
  · rintro i d s2 hd' ⟨x', y', _, rfl⟩
    rw [List.getElem?_map] at hd'
    obtain ⟨e, he, rfl⟩ := Option.map_eq_some_iff.mp hd'
    have hi := (List.getElem?_eq_some_iff.mp he).1
    have le := leH e (List.mem_of_getElem? he)
    walk_at "dd"
    refine ⟨G, U, s, 1, by rw [q2_one], ⟨f2, by decide⟩, ⟨f3.up, f4.up⟩, ⟨hs.up, Lt.one.up⟩, ?_⟩
    simp only [Int.mul_one, Int.one_mul]
    refine ⟨_, _, e, U, rfl, ⟨f2, f2⟩, ⟨lgs.up, f4.up⟩, ⟨le.up, f4.up⟩, ?_⟩
    have l1 : Lt 1643 (G * (s : Int) * U + e * U) := ((lgs.mul f4).up.add (le.mul f4)).up
    have l2 : Lt 1042 (U * U) := f4.mul f4
    have u2 : 0 < U * U := Int.mul_pos f2 f2
    refine ⟨(b : Int) - 1, 1, _, _, by rw [q2_one], ⟨by decide, u2⟩, ⟨lb9.up, Lt.one.up⟩, ⟨l1.up, l2.up⟩, ?_⟩
    simp only [Int.mul_one, Int.one_mul]
    refine ⟨_, _, 1, 1, by rw [q2_one], ⟨u2, by decide⟩, ⟨(lb9.mul l1).up, l2.up⟩, ⟨Lt.one.up, Lt.one.up⟩, ?_⟩
    simp only [Int.mul_one, Int.one_mul]
    try walk_at "dd"
    refine ⟨lt_line (by rw [List.length_map, List.length_take]; simp only [List.length_cons, List.length_nil] at hi ⊢; omega), ?_⟩
    rw [List.take_succ_eq_append_getElem hi, List.map_append]
    rw [show [L, H][i] = e by rw [List.getElem?_eq_getElem hi] at he; exact Option.some.inj he]
    rw [q2_eq (c := ((b : Int) - 1) * (G * s + e) + U) (d := U) u2 f2 (by grind)]
    exact ⟨_, _, rfl, rfl⟩
  · rintro s2 ⟨x', y', hy', rfl⟩
    rw [List.length_map, List.take_length]
    walk_at "dd"
    have lx : ∀ e, Lt 1121 e → Lt 8000 (((b : Int) - 1) * (G * s + e) + U) := fun e he => (((lb9.mul (lgs.up.add he)).add f4.up)).up (b := 8000)
    have x1le : ((b : Int) - 1) * (G * s + L) + U ≤ U * w := by
      have := Int.mul_le_mul_of_nonneg_left (show G * (s : Int) + L ≤ (undig b es 0 : Nat) * U by omega) (Int.le_of_lt hb0)
      have e2 : U * (w : Int) = ((b : Int) - 1) * ((undig b es 0 : Nat) * U) + U := by rw [← ew]; grind
      omega
    have x2ge : U * w ≤ ((b : Int) - 1) * (G * s + H) + U := by
      have := Int.mul_le_mul_of_nonneg_left (show (undig b es 0 : Nat) * U ≤ G * (s : Int) + H by omega) (Int.le_of_lt hb0)
      have e2 : U * (w : Int) = ((b : Int) - 1) * ((undig b es 0 : Nat) * U) + U := by rw [← ew]; grind
      omega
    have lx1 := lx L f5
    have lx2 := lx H f6
    generalize ((b : Int) - 1) * (G * s + L) + U = x1 at *
    generalize ((b : Int) - 1) * (G * s + H) + U = x2 at *
    have kex : ∀ x : Int, ∃ k : Nat, (0 < x → Rch b x U k) ∧ (¬ 0 < x → k = 0) := fun x => by
      by_cases h0 : 0 < x
      · obtain ⟨k, hk⟩ := rch_ex hb.1 (x := x) f2
        exact ⟨k, fun _ => hk, fun h1 => absurd h0 h1⟩
      · exact ⟨0, fun h1 => absurd h1 h0, fun _ => rfl⟩
    obtain ⟨k1, hk1, hk1'⟩ := kex x1
    obtain ⟨k2, hk2, hk2'⟩ := kex x2
    have w0 : 0 < w := Nat.lt_of_lt_of_le (Nat.pow_pos (by omega)) d1
    have c1 : k1 ≤ es.length + 1 := by
      rcases Nat.lt_or_ge (es.length + 1) k1 with h0 | h0
      · by_cases hx : 0 < x1
        · have h1 := (hk1 hx).2 _ h0
          have h2 : U * (w : Int) ≤ U * ((b ^ (es.length + 1) : Nat) : Int) := Int.mul_le_mul_of_nonneg_left (by omega) (Int.le_of_lt f2)
          omega
        · have := hk1' hx
          omega
      · exact h0
    have c2 : es.length ≤ k2 := by
      have hUw : 0 < U * (w : Int) := Int.mul_pos f2 (by omega)
      have h1 := (hk2 (by omega)).1
      have h2 : U * ((b ^ es.length : Nat) : Int) ≤ U * (w : Int) := Int.mul_le_mul_of_nonneg_left (by omega) (Int.le_of_lt f2)
      have h3 : ((b ^ es.length : Nat) : Int) ≤ ((b ^ k2 : Nat) : Int) := Int.le_of_mul_le_mul_left (by omega) f2
      exact (Nat.pow_le_pow_iff_right (by omega : 1 < b)).mp (by omega)
    have comp1 : ∀ (x : Int) (k : Nat), Lt 8000 x → (0 < x → Rch b x U k) → (¬ 0 < x → k = 0) → ∀ (m0 : M) (q : D → M → Prop), q (.int k) m0 → (0 < x → sp_reach_of [.int b, Q2 x U] m0 q) := fun x k l1 h1 h2 m0 q hq hx => ⟨b, k, x, U, rfl, hb, ⟨hx, f2⟩, l1, h1 hx, hq⟩
    refine lc_map (fun i => .int ((if i = 0 then k1 else k2 : Nat) : Int)) (by cases y' <;> first | rfl | cases hy') (by show 2 ≤ 1000000; decide) (fun i d hd' Q' hq' => ?_) ?_
    · have fin : ∀ (z : Int) (k : Nat), Lt 8000 z → (0 < z → Rch b z U k) → (¬ 0 < z → k = 0) → d = Q2 z U → (if i = 0 then k1 else k2 : Nat) = k → gNm 10 d ⟨m, wipeL [.val (.int b), .val (.int s), .val (.int (undig b es 0 : Nat)), .val (.tup [Q2 G U, Q2 L U, Q2 H U]), .val (.tup (nL es)), .val (.int (undig b es 0 : Nat)), x, .val (.int w), .val (.lst [Q2 x1 U, Q2 x2 U]), x', y', .no, .no, .no] [10]⟩ fun s2 => rIf (rB (rBin dGt (rIxN 10 (rC (.int 0))) (rC (.int 0)))) (rCall sp_reach_of (rCons (rVar 0) (rCons (rVar 10) rNil))) (rC (.int 0)) s2 Q' := by
        rintro z k l1 h1 h2 rfl hik
        walk_at "dq"
        refine ix0_q2 f2 fun z' hz' => ?_
        walk_at "dd"
        have hq2 := hq' ⟨m, [.val (.int b), .val (.int s), .val (.int (undig b es 0 : Nat)), .val (.tup [Q2 G U, Q2 L U, Q2 H U]), .val (.tup (nL es)), .val (.int (undig b es 0 : Nat)), x, .val (.int w), .val (.lst [Q2 x1 U, Q2 x2 U]), x', .val (Q2 z U), .no, .no, .no]⟩ rfl rfl
        rw [hik] at hq2
        by_cases hz : 0 < z
        · rw [decide_eq_true (hz'.mpr hz)]
          walk_at "dd"
          exact ⟨b, k, z, U, rfl, hb, ⟨hz, f2⟩, l1, h1 hz, hq2⟩
        · rw [decide_eq_false (fun h0 => hz (hz'.mp h0))]
          walk_at "dd"
          rw [h2 hz] at hq2
          exact hq2
      rcases i with _ | _ | i
      · exact fin x1 k1 lx1 hk1 hk1' (Option.some.inj hd').symm rfl
      · exact fin x2 k2 lx2 hk2 hk2' (Option.some.inj hd').symm rfl
      · cases hd'
    · rw [show (List.range [Q2 x1 U, Q2 x2 U].length).map (fun i => D.int ((if i = 0 then k1 else k2 : Nat) : Int)) = [.int k1, .int k2] from rfl]
      walk_at "dd"
      rw [show zipD [Q2 x1 U, Q2 x2 U] [.int k1, .int k2] = [.tup [Q2 x1 U, .int k1], .tup [Q2 x2 U, .int k2]] from rfl]
      refine ⟨fun i st => ∃ u v, st = ⟨m, [.val (.int b), .val (.int s), .val (.int (undig b es 0 : Nat)), .val (.tup [Q2 G U, Q2 L U, Q2 H U]), .val (.tup (nL es)), .val (.int (undig b es 0 : Nat)), x, .val (.int w), .val (.lst [Q2 x1 U, Q2 x2 U]), x', u, .val (.lst [.int k1, .int k2]), v, .no]⟩, ⟨_, _, rfl⟩, ?_, ?_⟩
      · rintro i d s2 hd' ⟨u, v, rfl⟩
        have fin : ∃ (z : Int) (k : Nat), Lt 8000 z ∧ (0 < z → Rch b z U k) ∧ d = .tup [Q2 z U, .int k] := by
          rcases i with _ | _ | i
          · exact ⟨x1, k1, lx1, hk1, (Option.some.inj hd').symm⟩
          · exact ⟨x2, k2, lx2, hk2, (Option.some.inj hd').symm⟩
          · cases hd'
        obtain ⟨z, k, l1, h1, rfl⟩ := fin
        walk_at "dq"
        refine ix0_q2 f2 fun z' hz' => ?_
        walk_at "dd"
        by_cases hz : 0 < z
        · rw [decide_eq_true (hz'.mpr hz)]
          walk_at "dd"
          refine ⟨b, k, z, U, rfl, hb, ⟨hz, f2⟩, l1, h1 hz, ?_⟩
          walk_at "dd"
          exact ⟨_, _, rfl⟩
        · rw [decide_eq_false (fun h0 => hz (hz'.mp h0))]
          walk_at "dd"
          exact ⟨_, _, rfl⟩
      · rintro s2 ⟨u, v, rfl⟩
        walk_at "dd"
        rw [nL_len, decide_eq_true (show (k1 : Int) - 1 ≤ (es.length : Int) by omega)]
        walk_at "dd"
        rw [decide_eq_true (show (es.length : Int) ≤ (k2 : Int) by omega)]
        exact h

end DL

/-! part M16 -/
namespace DL
open PySem PySem.Spec PyProof.Rows L2
local macro_rules | `(tactic| walk_at "dd") => `(tactic| simp only [↓e_seq, ↓e_next, ↓e_never, ↓e_ifs, ↓e_ret, ↓e_retN, ↓e_drop, ↓e_brk, ↓e_ct, ↓e_set, ↓e_setF, ↓e_par, ↓e_par3, ↓e_aug, ↓e_asg, ↓e_gNm, ↓e_gTp, ↓e_gsNil, ↓e_gsCons, ↓e_app, ↓e_setIx, ↓e_retM, ↓e_for, ↓e_var, ↓e_VGv, ↓e_VGo, ↓e_peek, ↓e_PG, ↓pk_int, ↓pk_bl, ↓pk_non, ↓pk_str, ↓pk_lst, ↓pk_tup, ↓pk_scr, ↓pk_own, ↓e_AGo, ↓e_AGh, ↓e_HG, ↓e_JG, ↓e_C, ↓e_bin, ↓e_b, ↓e_BG, ↓e_IG, ↓e_chn, ↓e_and, ↓e_or, ↓e_not, ↓e_andV, ↓e_orV, ↓e_notV, ↓e_if, ↓e_tru, ↓tg_bl, ↓tg_int, ↓tg_non, ↓tg_lst, ↓tg_tup, ↓e_nil, ↓e_cons, ↓e_tup, ↓e_lst, ↓lg_0, ↓lg_1, ↓lg_2, ↓lg_3, ↓lg_4, ↓lg_5, ↓lg_6, ↓lg_7, ↓lg_8, ↓lg_9, ↓lg_10, ↓lg_11, ↓lg_12, ↓lg_13, ↓lg_14, ↓lg_15, ↓lg_16, ↓e_fz, ↓e_one, ↓e_oneF, ↓e_ixN, ↓e_neg, ↓e_is, ↓yg_int_int, ↓yg_int_bl, ↓yg_int_non, ↓yg_int_str, ↓yg_int_lst, ↓yg_int_tup, ↓yg_bool_int, ↓yg_bool_bl, ↓yg_bool_non, ↓yg_bool_str, ↓yg_bool_lst, ↓yg_bool_tup, ↓yg_tuple_int, ↓yg_tuple_bl, ↓yg_tuple_non, ↓yg_tuple_str, ↓yg_tuple_lst, ↓yg_tuple_tup, ↓yg_list_int, ↓yg_list_bl, ↓yg_list_non, ↓yg_list_str, ↓yg_list_lst, ↓yg_list_tup, ↓yg_str_int, ↓yg_str_bl, ↓yg_str_non, ↓yg_str_str, ↓yg_str_lst, ↓yg_str_tup, ↓e_call, ↓e_callK, ↓e_isN, ↓e_items, ↓sg_lst, ↓sg_tup, ↓sg_scr, ↓e_slN, ↓e_sl, ↓e_oNone, ↓e_oSome, ↓e_yes, ↓e_lc, ↓e_rng1, ↓e_RG1, ↓e_rng2, ↓e_RG2, ↓e_revRng, ↓e_zip, ↓zg_tup, ↓zg_lst, ↓e_revF, ↓e_lstRg, ↓o_add_i, ↓o_add_b, ↓o_add_t, ↓o_add_l, ↓o_sub, ↓o_mul, ↓o_mul_l, ↓o_div, ↓o_mod, ↓o_pow, ↓o_lt, ↓o_le, ↓o_gt, ↓o_ge, ↓o_eq_i, ↓o_ne_i, ↓o_ix_t, ↓o_ix_l, ↓o_ix_s, ↓o_len_t, ↓o_len_l, ↓o_len_s, ↓o_abs, ↓o_int_i, ↓o_int_b, ↓o_tuple, ↓o_list, ↓o_sum_t, ↓o_sum_l, ↓o_gcd, ↓o_divmod, ↓o_isB, ↓o_notB, ↓o_sl_t, ↓o_sl_l, ↓o_rev_l, ↓o_all, ↓o_any, ↓e_put, ↓pk_mset, ↓mset_s, ↓ix_1_0, ↓ix_2_0, ↓ix_2_1, ↓ix_3_0, ↓ix_3_1, ↓ix_3_2, ↓ix_4_0, ↓ix_4_1, ↓ix_4_2, ↓ix_4_3, ↓ix_5_0, ↓ix_5_1, ↓ix_5_2, ↓ix_5_3, ↓ix_5_4, ↓ix_6_0, ↓ix_6_1, ↓ix_6_2, ↓ix_6_3, ↓ix_6_4, ↓ix_6_5, ↓ix_7_0, ↓ix_7_1, ↓ix_7_2, ↓ix_7_3, ↓ix_7_4, ↓ix_7_5, ↓ix_7_6,
  List.length_cons, List.length_nil, List.map_cons, List.map_nil, List.cons_append, List.nil_append, List.append_nil, List.replicate_succ, List.replicate_zero, Nat.reduceSub, Nat.reduceAdd, Nat.reduceLeDiff, Nat.reduceEqDiff, wipeL, List.set_nil, List.set_cons_zero, List.set_cons_succ, List.getElem?_cons_zero, List.getElem?_cons_succ, List.filterMap_cons, List.filterMap_nil, startL, atI_c0, atI_c1, atI_c2, atI_c3, b2i, Option.some.injEq, D.int.injEq, D.bl.injEq, D.tup.injEq, D.lst.injEq, D.str.injEq, List.cons.injEq, and_true, true_and, and_assoc, ↓reduceIte, Bool.false_eq_true, Bool.not_true, Bool.not_false, if_true, if_false, decide_true, decide_false, Int.cast_ofNat_Int, Int.natCast_one, Int.natCast_zero, Int.reduceBEq, beq_self_eq_true, Int.reduceNeg, Int.reduceLT, Int.reduceLE, isNonB, noH, nT, Bool.true_and, Bool.false_and])

/-! ### what may be written -/
theorem nL_pl {ns : List Nat} {n : Nat} (h : ∀ x ∈ ns, Lt 1920 (x : Int)) : pls (nL ns) n = true := pls_all fun d hd => by
  obtain ⟨x, hx, rfl⟩ := List.mem_map.mp hd
  exact int_pl (h x hx) n
theorem nL_sz (ns : List Nat) : szs (nL ns) ≤ ns.length * 1932 := by
  have := szs_all (c := 1930) (ds := nL ns) fun d hd => by
    obtain ⟨x, hx, rfl⟩ := List.mem_map.mp hd
    exact Nat.le_refl _
  rw [nL_len] at this
  exact this
theorem nL_ok (ns : List Nat) (n : Nat) : oks (nL ns) n = true := by
  rw [nL_ints]
  exact oks_ints _ n
theorem undig_lt2 {b a : Nat} {ds : List Nat} {s : Nat} (hb : b ≤ 256) (h : ∀ d ∈ ds, d < b) (hs : Lt a (s : Int)) : Lt (9 * ds.length + a) ((undig b ds s : Nat) : Int) := by
  have h1 := undig_le hb ds s h
  show undig b ds s < 2 ^ (9 * ds.length + a)
  have e : (512 : Nat) ^ ds.length = 2 ^ (9 * ds.length) := by rw [Nat.pow_mul]
  rw [e] at h1
  have hs : s + 1 ≤ 2 ^ a := hs
  have h2 : 2 ^ (9 * ds.length) * (s + 1) ≤ 2 ^ (9 * ds.length) * 2 ^ a := Nat.mul_le_mul_left _ hs
  rw [Nat.pow_add]
  omega
theorem cut_hi (ns : List Nat) (k : Nat) : cut (nL ns) (some (k : Int)) none = nL (ns.drop k) := by
  unfold cut
  rw [HT.sIx_none, HT.sIx_nat, nL_len]
  unfold nL
  rw [← List.map_drop, List.map_drop, List.take_of_length_le (by rw [List.length_drop, List.length_map]; omega), ← List.map_drop]
  congr 1
  rw [Nat.min_def]
  by_cases h : k ≤ ns.length
  · rw [if_pos h]
  · rw [if_neg h, List.drop_of_length_le (by omega), List.drop_of_length_le (by omega)]
theorem letters_lt {ts : List (List Nat)} {n : Nat} (h : ∀ t ∈ ts, Tb t) : ∀ x ∈ popL ts n, x < 1000 := fun x hx => by
  rw [← popRow_snd] at hx
  obtain ⟨p, hp, rfl⟩ := List.mem_map.mp hx
  have := (pop_row ts n h).1 p hp
  have h1 := this.lt
  have h2 := this.tb.len
  omega
theorem lt1000 {x : Nat} (h : x < 8192) : Lt 1920 (x : Int) := (lt13 h).up
theorem pop_pl {ls : List Nat} {n : Nat} (h : ∀ x ∈ ls, x < 8192) (hn : Lt 1920 (n : Int)) : (D.tup [nT ls, .int n]).pl 60 = true := by
  show (pls (nL ls) 58 && ((D.int (n : Int)).pl 59 && true)) = true
  rw [nL_pl fun x hx => lt1000 (h x hx), int_pl hn]
  rfl
theorem pop_sz {ls : List Nat} {n : Nat} (h : ls.length ≤ 1000) : (D.tup [nT ls, .int n]).sz ≤ 16000000 := by
  show szs (nL ls) + 4 + 2 + (1930 + 2 + 0) + 4 ≤ 16000000
  have := nL_sz ls
  omega
def sp_Ulaw_is_fed : DSp
  | [.hnd (.ref a), .int b, .int t, .tup ds], m, Q => ∃ (c k : Nat) (ts : List (List Nat)), b = c ∧ t = k ∧ ds = tL ts ∧ WlM m a ∧ (2 ≤ c ∧ c ≤ 256) ∧ (∀ t ∈ ts, Tb t) ∧ ts.length ≤ 40 ∧ Lt 720 (k : Int) ∧ ∀ m', Q (.bl true) m'
  | _, _, _ => False
theorem ln_Ulaw_is_fed : ∀ ds m Qd, sp_Ulaw_is_fed ds m Qd → ds.length = 4 := by
  intro ds m Qd h
  unfold sp_Ulaw_is_fed at h
  split at h
  · rfl
  · exact h.elim
theorem rd_Ulaw_is_fed : ∀ ds m Qd, sp_Ulaw_is_fed ds m Qd → R_Ulaw_is_fed sp_Ulaw_dip sp_added sp_pop_letters sp_taken sp_Ulaw_popped sp_push_letters { nx := fun s => Qd .non s.m, rt := Qd } ⟨m, startL 11 ds⟩ := by
  intro ds m Qd h
  unfold sp_Ulaw_is_fed at h
  split at h
  · unfold R_Ulaw_is_fed
    rename_i a _ _ _
    obtain ⟨b, t, ts, rfl, rfl, rfl, hw, hb, hall, htl, lt, h⟩ := h
    walk_at "dd"
    refine dip_ok hw (by decide) (by decide) fun r m1 hr hw1 => ?_
    try walk_at "dd"
    rw [Int.toNat_natCast]
    refine ⟨⟨by omega, by omega⟩, lc_run (fun i acc m' => ∃ ns : List Nat, acc = nL ns ∧ ns.length = i ∧ (∀ n ∈ ns, n < b) ∧ WlM m' a) rfl (by simp; omega) ⟨[], rfl, rfl, by simp, hw1⟩ ?_ ?_⟩
    · rintro i d acc m' hd _ ⟨ns, rfl, hlen, hle, hw'⟩ Q' hq
      obtain ⟨hi, rfl⟩ := rng_at hd
      walk_at "dd"
      refine dip_ok hw' (by omega) (by omega) fun r m2 hr hw2 => ?_
      exact hq _ _ ⟨ns ++ [r], by rw [nL_app]; rfl, by rw [List.length_append, hlen]; rfl, app_all hle (by omega), hw2⟩ rfl
    rintro acc m' _ ⟨ns, rfl, hlen, hle, hw'⟩
    rw [List.length_map, List.length_range] at hlen
    walk_at "dd"
    rw [nL_len]
    refine dip_ok hw' (by omega) (by omega) fun c m2 hc hw2 => ?_
    try walk_at "dd"
    have dok : DgOk b ns := ⟨hb, hle, by omega⟩
    refine ⟨fun i st => ∃ x, st = ⟨m2, [.val (.hnd (.ref a)), .val (.int b), .val (.int t), .val (.tup (tL ts)), .val (.tup (nL ns)), .val (.int c), .val (.int (undig b (ns.take i) t : Nat)), x, .no, .no, .no]⟩, ⟨_, rfl⟩, ?_, ?_⟩
    · rintro i d s2 hd' ⟨x, rfl⟩
      obtain ⟨hi, rfl⟩ := nL_at hd'
      walk_at "dd"
      have hu := undig_lt (s := t) hb.2 (fun d h => hle d (List.mem_of_mem_take h)) (show (ns.take i).length ≤ 1000 by rw [List.length_take]; omega) lt
      refine ⟨(lt9 hb.2).cm hu, ?_⟩
      have e1 := (undig_step (s := t) hi hle).1
      have e2 : ns.getD i 0 = ns[i] := by unfold List.getD; rw [List.getElem?_eq_getElem hi]; rfl
      rw [e1, e2, Int.mul_comm]
      exact ⟨_, rfl⟩
    rintro s2 ⟨x, rfl⟩
    rw [nL_len, List.take_length]
    walk_at "dd"
    rw [cut_nL, cut_hi]
    have l1 : ∀ k, ((ns.take k).length ≤ 6 ∧ (∀ d ∈ ns.take k, d < b)) ∧ (ns.drop k).length ≤ 6 ∧ (∀ d ∈ ns.drop k, d < b) := fun k => ⟨⟨by rw [List.length_take]; omega, fun d hd => hle d (List.mem_of_mem_take hd)⟩, by rw [List.length_drop]; omega, fun d hd => hle d (List.mem_of_mem_drop hd)⟩
    have hu0 := undig_lt2 (s := t) hb.2 (l1 c).1.2 lt
    have hu : Lt 800 ((undig b ns t : Nat) : Int) := (undig_lt2 (s := t) hb.2 hle lt).up (by omega)
    refine ⟨b, t, ns.take c, rfl, ⟨hb, (l1 c).1.2, by have := (l1 c).1.1; omega⟩, lt.up, ?_⟩
    refine ⟨b, _, ns.drop c, rfl, ⟨hb, (l1 c).2.2, by have := (l1 c).2.1; omega⟩, hu0.up (by have := (l1 c).1.1; omega), ?_⟩
    rw [← undig_app, List.take_append_drop]
    try walk_at "dd"
    refine ⟨b, t, ns, rfl, dok, lt.up, ?_⟩
    try walk_at "dd"
    generalize hdu : undig b ns t = u at *
    refine ⟨ts, u, rfl, rfl, hall, by omega, hu.up, ?_⟩
    walk_at "dd"
    refine ⟨b, t, ns, by rw [hdu, nL_len], dok, ?_⟩
    have ok1 : (D.tup [nT ns, .int t]).ok 60 = true := by
      show (oks (nL ns) 58 && (true && true)) = true
      rw [nL_ok]
      rfl
    refine ne_self ok1 ?_
    walk_at "dd"
    have lo := letters_lt (n := u) hall
    have hpr : Lt 1920 ((popR ts u : Nat) : Int) := (hu.le (y := ((popR ts u : Nat) : Int)) (popR_le ts u hall)).up
    have hpl := pop_pl (n := popR ts u) (fun x hx => by have := lo x hx; omega) hpr
    have hsz := pop_sz (n := popR ts u) (show (popL ts u).length ≤ 1000 by rw [popL_len]; omega)
    refine repr_pl hpl hsz ⟨ts, u, rfl, hall, by omega, hu.up, ?_⟩
    refine repr_pl hpl hsz (rep_ne hpl ?_)
    walk_at "dd"
    obtain ⟨r1, r2⟩ := pop_row ts u hall
    refine ⟨popRow ts u, popR ts u, rfl, ?_, ?_, r1, ?_, ?_, ?_⟩
    · unfold rT
      rw [popRow_fst]
    · unfold rL
      rw [popRow_snd]
    · have := congrArg List.length (popRow_fst ts u)
      rw [List.length_map] at this
      omega
    · exact (hu.le (y := ((popR ts u : Nat) : Int)) (popR_le ts u hall)).up
    · rw [r2]
      walk_at "dd"
      exact h _
  · exact h.elim

end DL

/-! part NN -/
namespace DL
open PySem PySem.Spec PyProof.Rows L2
section
variable {r u : RS} {ra rb rc : RE} {rr rk : RA} {ta tb : RT} {n bk ct : S → Prop} {t : D → M → Prop} {D' : DEnds} {s : S} {m : M} {l : List Sl} {i j k : Nat} {d e : D} {ds es : List D} {dop dop' : DO2} {Q : D → S → Prop} {Qb : Bool → S → Prop} {Ql : List D → S → Prop} {Qs : S → Prop} {q : D → Prop} {P : Prop} {sp : DSp} {a b : Int} {c : Bool} {x : Str}
theorem nn_e_seq : rSeq r u ⟨n, t, bk, ct⟩ s = r ⟨u ⟨n, t, bk, ct⟩, t, bk, ct⟩ s := id rfl
theorem nn_e_next : rNext ⟨n, t, bk, ct⟩ s = n s := id rfl
theorem nn_e_never : rNever D' s = False := id rfl
theorem nn_e_ifs : rIfS ta r u D' s = ta s fun b s1 => if b = true then r D' s1 else u D' s1 := id rfl
theorem nn_e_ret : rRet ra ⟨n, t, bk, ct⟩ s = ra s fun d s1 => t d s1.m := id rfl
theorem nn_e_retN : rRetN ⟨n, t, bk, ct⟩ ⟨m, l⟩ = t .non m := id rfl
theorem nn_e_drop : rDrop ra ⟨n, t, bk, ct⟩ s = ra s fun _ s1 => n s1 := id rfl
theorem nn_e_brk : rBreak ⟨n, t, bk, ct⟩ s = bk s := id rfl
theorem nn_e_ct : rCont ⟨n, t, bk, ct⟩ s = ct s := id rfl
theorem nn_e_set : rSet i ra ⟨n, t, bk, ct⟩ s = ra s fun d s1 => n (put s1 i (.val d)) := id rfl
theorem nn_e_setF : rSetF i rr ⟨n, t, bk, ct⟩ s = rr s fun ds s1 => n (put s1 i (.own ds)) := id rfl
theorem nn_e_par : rPar i j rr ⟨n, t, bk, ct⟩ s = rr s fun ds s1 => gsCons (gNm i) (gsCons (gNm j) gsNil) ds s1 n := by
  unfold rPar gsCons gNm gsNil
  congr 1
  funext ds s1
  refine propext ⟨fun ⟨d, e, h, q⟩ => ⟨d, [e], h, e, [], rfl, rfl, q⟩, fun ⟨d, es, h, e, es', h', h2, q⟩ => ⟨d, e, by rw [h, h', h2], q⟩⟩
theorem nn_e_par3 : rPar3 i j k rr ⟨n, t, bk, ct⟩ s = rr s fun ds s1 => gsCons (gNm i) (gsCons (gNm j) (gsCons (gNm k) gsNil)) ds s1 n := by
  unfold rPar3 gsCons gNm gsNil
  congr 1
  funext ds s1
  refine propext ⟨fun ⟨d, e, f, h, q⟩ => ⟨d, [e, f], h, e, [f], rfl, f, [], rfl, rfl, q⟩, fun ⟨d, es, h, e, es', h', f, es2, h2, h3, q⟩ => ⟨d, e, f, by rw [h, h', h2, h3], q⟩⟩
theorem nn_e_aug {f : Int → Int → Int} : rAug i f ra ⟨n, t, bk, ct⟩ s = rPeek i s fun d0 _ => ra s fun d s1 => IG d0 (fun x => IG d (fun y => n (put s1 i (.val (.int (f x y))))) tg) tg := by
  unfold rAug IG
  congr 1
  funext d0 s0
  congr 1
  funext d s1
  refine propext ⟨fun ⟨x, y, h1, h2, q⟩ => ⟨x, h1, y, h2, q⟩, fun ⟨x, h1, y, h2, q⟩ => ⟨x, y, h1, h2, q⟩⟩
theorem nn_e_asg {gt : RG} : rAsg ra gt ⟨n, t, bk, ct⟩ s = ra s fun d s1 => gt d s1 n := id rfl
theorem nn_e_gNm : gNm i d s Qs = Qs (put s i (.val d)) := id rfl
theorem nn_e_gTp {v : RGs} : gTp k v (.tup ds) s Qs = (ds.length = k ∧ v ds s Qs) := propext ⟨fun ⟨_, e, h⟩ => by cases e; exact h, fun h => ⟨_, rfl, h⟩⟩
theorem nn_e_gsNil : gsNil [] s Qs = Qs s := propext ⟨fun h => h.2, fun h => ⟨rfl, h⟩⟩
theorem nn_e_gsCons {g : RG} {v : RGs} : gsCons g v (d :: ds) s Qs = g d s fun s1 => v ds s1 Qs := propext ⟨fun ⟨_, _, e, h⟩ => by cases e; exact h, fun h => ⟨_, _, rfl, h⟩⟩
theorem nn_e_app : rApp i ra ⟨n, t, bk, ct⟩ ⟨m, l⟩ = AG l[i]? m l i (fun _ _ => ra ⟨m, l⟩ fun d s1 => AG s1.sl[i]? s1.m s1.sl i (fun ds up => ds.length < sizeLine ∧ n (up (ds ++ [d]))) tg) tg := by
  unfold rApp
  have e1 : ∀ d (s1 : S), (∃ ds up, lstAt s1 i = some (ds, up) ∧ ds.length < sizeLine ∧ n (up (ds ++ [d]))) = AG s1.sl[i]? s1.m s1.sl i (fun ds up => ds.length < sizeLine ∧ n (up (ds ++ [d]))) tg := fun d s1 => lstAt_AG (m := s1.m) (l := s1.sl)
  simp only [e1]
  rw [← lstAt_AG (k := fun _ _ => ra ⟨m, l⟩ fun d s1 => AG s1.sl[i]? s1.m s1.sl i (fun ds up => ds.length < sizeLine ∧ n (up (ds ++ [d]))) tg)]
  exact propext ⟨fun ⟨⟨⟨a, b⟩, h⟩, q⟩ => ⟨a, b, h, q⟩, fun ⟨a, b, h, q⟩ => ⟨⟨⟨a, b⟩, h⟩, q⟩⟩
theorem nn_e_setIx : rSetIx i ra rb ⟨n, t, bk, ct⟩ s = ra s fun d s1 => rPeek i s1 fun _ _ => rb s1 fun di s2 => AG s2.sl[i]? s2.m s2.sl i (fun ds up => IG di (fun x => JG (ixN ds.length x) (fun j => n (up (ds.set j d))) tg) tg) tg := by
  unfold rSetIx
  congr 1
  funext d s1
  congr 1
  funext _ _
  congr 1
  funext di s2
  have e1 := lstAt_AG (m := s2.m) (l := s2.sl) (i := i) (k := fun ds up => IG di (fun x => JG (ixN ds.length x) (fun j => n (up (ds.set j d))) tg) tg)
  rw [← e1]
  unfold IG JG
  exact propext ⟨fun ⟨ds, up, x, j, h1, h2, h3, q⟩ => ⟨ds, up, h1, x, h2, j, h3, q⟩, fun ⟨ds, up, h1, x, h2, j, h3, q⟩ => ⟨ds, up, x, j, h1, h2, h3, q⟩⟩
theorem nn_e_retM : rRetM rr ⟨n, t, bk, ct⟩ s = rr s fun ds s1 => ∀ a, s1.m a = none → t (.hnd (.ref a)) (mset s1.m a (.lst ds)) := id rfl
theorem nn_e_for {ri : RA} {gt : RG} : rFor ri gt r D' s = ri s fun ds s1 => ForG ds gt r D' s1 := id rfl
theorem nn_e_var : rVar i ⟨m, l⟩ Q = VG l[i]? m l i Q tg := id rfl
theorem nn_e_VGv : VG (some (.val d)) m l i Q tg = Q d ⟨m, l⟩ := id rfl
theorem nn_e_VGo : VG (some (.own ds)) m l i Q tg = Q (.lst ds) ⟨m, l.set i (.val (.lst ds))⟩ := id rfl
theorem nn_e_peek : rPeek i ⟨m, l⟩ Q = PG (peekL m l[i]?) (fun d => Q d ⟨m, l⟩) tg := id rfl
theorem nn_e_PG : PG (some d) q tg = q d := ex1 fun _ _ e => Option.some.inj e
theorem nn_pk_int : peekL m (some (.val (.int a))) = some (.int a) := id rfl
theorem nn_pk_bl : peekL m (some (.val (.bl c))) = some (.bl c) := id rfl
theorem nn_pk_non : peekL m (some (.val .non)) = some .non := id rfl
theorem nn_pk_str : peekL m (some (.val (.str x))) = some (.str x) := id rfl
theorem nn_pk_lst : peekL m (some (.val (.lst ds))) = some (.lst ds) := id rfl
theorem nn_pk_tup : peekL m (some (.val (.tup ds))) = some (.tup ds) := id rfl
theorem nn_pk_scr {ns : List Int} : peekL m (some (.val (.scr ns))) = some (.scr ns) := id rfl
theorem nn_pk_own : peekL m (some (.own ds)) = some (.lst ds) := id rfl
theorem nn_e_AGo {K : List D → (List D → S) → Prop} : AG (some (.own ds)) m l i K tg = K ds fun es => ⟨m, l.set i (.own es)⟩ := id rfl
theorem nn_e_AGh {ad : Addr} {K : List D → (List D → S) → Prop} : AG (some (.val (.hnd (.ref ad)))) m l i K tg = HG (m ad) (fun ds => K ds fun es => ⟨mset m ad (.lst es), l⟩) tg := by
  show (match m ad with
    | some (MO.lst ds) => K ds fun es => ⟨mset m ad (.lst es), l⟩
    | none => False) = _
  unfold HG
  generalize m ad = o
  cases o with
  | none => exact (propext ⟨fun ⟨_, e, h⟩ => (by cases e), fun h => h.elim⟩ : _ = _).symm
  | some o => cases o with
    | lst ds => exact (propext ⟨fun ⟨_, e, h⟩ => (by cases e; exact h), fun h => ⟨_, rfl, h⟩⟩ : _ = _).symm
theorem nn_e_HG {K : List D → Prop} : HG (some (.lst ds)) K tg = K ds := propext ⟨fun ⟨_, e, h⟩ => by cases e; exact h, fun h => ⟨_, rfl, h⟩⟩
theorem nn_e_JG {K : Nat → Prop} : JG (some j) K tg = K j := ex1 fun _ _ e => Option.some.inj e
theorem nn_e_C : rC d s Q = Q d s := id rfl
theorem nn_e_bin : rBin dop ra rb s Q = ra s fun d1 s1 => rb s1 fun d2 s2 => dop d1 d2 fun d => Q d s2 := id rfl
theorem nn_e_b : rB ra s Qb = ra s fun d s' => BG d (fun b => Qb b s') tg := id rfl
theorem nn_e_BG {K : Bool → Prop} : BG (.bl c) K tg = K c := ex1 fun _ _ e => by cases e; rfl
theorem nn_e_IG {K : Int → Prop} : IG (.int a) K tg = K a := ex1 fun _ _ e => by cases e; rfl
theorem nn_e_chn : rChn dop dop' ra rb rc s Q = ra s fun d1 s1 => rb s1 fun d2 s2 => dop d1 d2 fun z => BG z (fun k => if k = true then rc s2 fun d3 s3 => dop' d2 d3 fun d => Q d s3 else Q (.bl false) s2) tg := id rfl
theorem nn_e_and : rAnd ta tb s Qb = ta s fun c s1 => if c = true then tb s1 Qb else Qb false s1 := id rfl
theorem nn_e_or : rOr ta tb s Qb = ta s fun c s1 => if c = true then Qb true s1 else tb s1 Qb := id rfl
theorem nn_e_not : rNot ta s Qb = ta s fun c s1 => Qb (!c) s1 := id rfl
theorem nn_e_andV : rAndV ra rb s Q = ra s fun d s1 => BG d (fun c => if c = true then rb s1 Q else Q (.bl false) s1) tg := id rfl
theorem nn_e_orV : rOrV ra rb s Q = ra s fun d s1 => BG d (fun c => if c = true then Q (.bl true) s1 else rb s1 Q) tg := id rfl
theorem nn_e_notV : rNotV ra s Q = ra s fun d s1 => BG d (fun c => Q (.bl (!c)) s1) tg := id rfl
theorem nn_e_if : rIf ta ra rb s Q = ta s fun c s1 => if c = true then ra s1 Q else rb s1 Q := id rfl
theorem nn_e_tru : rTru ra s Qb = ra s fun d s1 => TG d (fun b => Qb b s1) tg := id rfl
theorem nn_tg_bl {K : Bool → Prop}: TG (.bl c) K tg = K c := ex1 fun _ _ e => Option.some.inj e
theorem nn_tg_int {K : Bool → Prop}: TG (.int a) K tg = K (a != 0) := ex1 fun _ _ e => Option.some.inj e
theorem nn_tg_non {K : Bool → Prop}: TG .non K tg = K false := ex1 fun _ _ e => Option.some.inj e
theorem nn_tg_lst {K : Bool → Prop}: TG (.lst ds) K tg = K (!ds.isEmpty) := ex1 fun _ _ e => Option.some.inj e
theorem nn_tg_tup {K : Bool → Prop}: TG (.tup ds) K tg = K (!ds.isEmpty) := ex1 fun _ _ e => Option.some.inj e
theorem nn_e_nil : rNil s Ql = Ql [] s := id rfl
theorem nn_e_cons : rCons ra rr s Ql = ra s fun d s1 => rr s1 fun ds s2 => Ql (d :: ds) s2 := id rfl
theorem nn_e_tup : rTup rr s Q = rr s fun ds s1 => LG ds (Q (.tup ds) s1) tg := id rfl
theorem nn_e_lst : rLst rr s Ql = rr s fun ds s1 => LG ds (Ql ds s1) tg := id rfl
theorem nn_lg_0 : LG [] P tg = P := propext ⟨fun h => h.2, fun h => ⟨Nat.le_trans (show _ ≤ 16777216 by simp) (by decide), h⟩⟩
theorem nn_lg_1 {y0 : D} : LG [y0] P tg = P := propext ⟨fun h => h.2, fun h => ⟨Nat.le_trans (show _ ≤ 16777216 by simp) (by decide), h⟩⟩
theorem nn_lg_2 {y0 y1 : D} : LG [y0, y1] P tg = P := propext ⟨fun h => h.2, fun h => ⟨Nat.le_trans (show _ ≤ 16777216 by simp) (by decide), h⟩⟩
theorem nn_lg_3 {y0 y1 y2 : D} : LG [y0, y1, y2] P tg = P := propext ⟨fun h => h.2, fun h => ⟨Nat.le_trans (show _ ≤ 16777216 by simp) (by decide), h⟩⟩
theorem nn_lg_4 {y0 y1 y2 y3 : D} : LG [y0, y1, y2, y3] P tg = P := propext ⟨fun h => h.2, fun h => ⟨Nat.le_trans (show _ ≤ 16777216 by simp) (by decide), h⟩⟩
theorem nn_lg_5 {y0 y1 y2 y3 y4 : D} : LG [y0, y1, y2, y3, y4] P tg = P := propext ⟨fun h => h.2, fun h => ⟨Nat.le_trans (show _ ≤ 16777216 by simp) (by decide), h⟩⟩
theorem nn_lg_6 {y0 y1 y2 y3 y4 y5 : D} : LG [y0, y1, y2, y3, y4, y5] P tg = P := propext ⟨fun h => h.2, fun h => ⟨Nat.le_trans (show _ ≤ 16777216 by simp) (by decide), h⟩⟩
theorem nn_lg_7 {y0 y1 y2 y3 y4 y5 y6 : D} : LG [y0, y1, y2, y3, y4, y5, y6] P tg = P := propext ⟨fun h => h.2, fun h => ⟨Nat.le_trans (show _ ≤ 16777216 by simp) (by decide), h⟩⟩
theorem nn_lg_8 {y0 y1 y2 y3 y4 y5 y6 y7 : D} : LG [y0, y1, y2, y3, y4, y5, y6, y7] P tg = P := propext ⟨fun h => h.2, fun h => ⟨Nat.le_trans (show _ ≤ 16777216 by simp) (by decide), h⟩⟩
theorem nn_lg_9 {y0 y1 y2 y3 y4 y5 y6 y7 y8 : D} : LG [y0, y1, y2, y3, y4, y5, y6, y7, y8] P tg = P := propext ⟨fun h => h.2, fun h => ⟨Nat.le_trans (show _ ≤ 16777216 by simp) (by decide), h⟩⟩
theorem nn_lg_10 {y0 y1 y2 y3 y4 y5 y6 y7 y8 y9 : D} : LG [y0, y1, y2, y3, y4, y5, y6, y7, y8, y9] P tg = P := propext ⟨fun h => h.2, fun h => ⟨Nat.le_trans (show _ ≤ 16777216 by simp) (by decide), h⟩⟩
theorem nn_lg_11 {y0 y1 y2 y3 y4 y5 y6 y7 y8 y9 y10 : D} : LG [y0, y1, y2, y3, y4, y5, y6, y7, y8, y9, y10] P tg = P := propext ⟨fun h => h.2, fun h => ⟨Nat.le_trans (show _ ≤ 16777216 by simp) (by decide), h⟩⟩
theorem nn_lg_12 {y0 y1 y2 y3 y4 y5 y6 y7 y8 y9 y10 y11 : D} : LG [y0, y1, y2, y3, y4, y5, y6, y7, y8, y9, y10, y11] P tg = P := propext ⟨fun h => h.2, fun h => ⟨Nat.le_trans (show _ ≤ 16777216 by simp) (by decide), h⟩⟩
theorem nn_lg_13 {y0 y1 y2 y3 y4 y5 y6 y7 y8 y9 y10 y11 y12 : D} : LG [y0, y1, y2, y3, y4, y5, y6, y7, y8, y9, y10, y11, y12] P tg = P := propext ⟨fun h => h.2, fun h => ⟨Nat.le_trans (show _ ≤ 16777216 by simp) (by decide), h⟩⟩
theorem nn_lg_14 {y0 y1 y2 y3 y4 y5 y6 y7 y8 y9 y10 y11 y12 y13 : D} : LG [y0, y1, y2, y3, y4, y5, y6, y7, y8, y9, y10, y11, y12, y13] P tg = P := propext ⟨fun h => h.2, fun h => ⟨Nat.le_trans (show _ ≤ 16777216 by simp) (by decide), h⟩⟩
theorem nn_lg_15 {y0 y1 y2 y3 y4 y5 y6 y7 y8 y9 y10 y11 y12 y13 y14 : D} : LG [y0, y1, y2, y3, y4, y5, y6, y7, y8, y9, y10, y11, y12, y13, y14] P tg = P := propext ⟨fun h => h.2, fun h => ⟨Nat.le_trans (show _ ≤ 16777216 by simp) (by decide), h⟩⟩
theorem nn_lg_16 {y0 y1 y2 y3 y4 y5 y6 y7 y8 y9 y10 y11 y12 y13 y14 y15 : D} : LG [y0, y1, y2, y3, y4, y5, y6, y7, y8, y9, y10, y11, y12, y13, y14, y15] P tg = P := propext ⟨fun h => h.2, fun h => ⟨Nat.le_trans (show _ ≤ 16777216 by simp) (by decide), h⟩⟩
theorem nn_e_fz : rFz rr s Q = rr s fun ds s1 => Q (.lst ds) s1 := id rfl
theorem nn_e_one {dc : DO1} : rOne dc ra s Q = ra s fun d s1 => dc d fun d' => Q d' s1 := id rfl
theorem nn_e_oneF {dc : D → (List D → Prop) → Prop} : rOneF dc ra s Ql = ra s fun d s1 => dc d fun ds => Ql ds s1 := id rfl
theorem nn_e_ixN : rIxN i rb s Q = rPeek i s fun _ _ => rb s fun d s1 => rPeek i s1 fun d0 s2 => dIx d0 d fun d' => Q d' s2 := id rfl
theorem nn_e_neg : rNeg ra s Q = ra s fun d s1 => IG d (fun i => Q (.int (-i)) s1) tg := id rfl
theorem nn_e_is {T : String} : rIs T ra s Q = ra s fun d s1 => YG T d (fun d' => Q d' s1) tg := id rfl
theorem nn_yg_int_int : YG "int" (.int a) q tg = q (.bl true) := propext ⟨fun ⟨_, _, e1, e2, h⟩ => by cases e1; rw [show kitB "int" "int" = some true by decide +kernel] at e2; cases e2; exact h, fun h => ⟨_, _, rfl, by decide +kernel, h⟩⟩
theorem nn_yg_int_bl : YG "int" (.bl c) q tg = q (.bl true) := propext ⟨fun ⟨_, _, e1, e2, h⟩ => by cases e1; rw [show kitB "bool" "int" = some true by decide +kernel] at e2; cases e2; exact h, fun h => ⟨_, _, rfl, by decide +kernel, h⟩⟩
theorem nn_yg_int_non : YG "int" .non q tg = q (.bl false) := propext ⟨fun ⟨_, _, e1, e2, h⟩ => by cases e1; rw [show kitB "NoneType" "int" = some false by decide +kernel] at e2; cases e2; exact h, fun h => ⟨_, _, rfl, by decide +kernel, h⟩⟩
theorem nn_yg_int_str : YG "int" (.str x) q tg = q (.bl false) := propext ⟨fun ⟨_, _, e1, e2, h⟩ => by cases e1; rw [show kitB "str" "int" = some false by decide +kernel] at e2; cases e2; exact h, fun h => ⟨_, _, rfl, by decide +kernel, h⟩⟩
theorem nn_yg_int_lst : YG "int" (.lst ds) q tg = q (.bl false) := propext ⟨fun ⟨_, _, e1, e2, h⟩ => by cases e1; rw [show kitB "list" "int" = some false by decide +kernel] at e2; cases e2; exact h, fun h => ⟨_, _, rfl, by decide +kernel, h⟩⟩
theorem nn_yg_int_tup : YG "int" (.tup ds) q tg = q (.bl false) := propext ⟨fun ⟨_, _, e1, e2, h⟩ => by cases e1; rw [show kitB "tuple" "int" = some false by decide +kernel] at e2; cases e2; exact h, fun h => ⟨_, _, rfl, by decide +kernel, h⟩⟩
theorem nn_yg_bool_int : YG "bool" (.int a) q tg = q (.bl false) := propext ⟨fun ⟨_, _, e1, e2, h⟩ => by cases e1; rw [show kitB "int" "bool" = some false by decide +kernel] at e2; cases e2; exact h, fun h => ⟨_, _, rfl, by decide +kernel, h⟩⟩
theorem nn_yg_bool_bl : YG "bool" (.bl c) q tg = q (.bl true) := propext ⟨fun ⟨_, _, e1, e2, h⟩ => by cases e1; rw [show kitB "bool" "bool" = some true by decide +kernel] at e2; cases e2; exact h, fun h => ⟨_, _, rfl, by decide +kernel, h⟩⟩
theorem nn_yg_bool_non : YG "bool" .non q tg = q (.bl false) := propext ⟨fun ⟨_, _, e1, e2, h⟩ => by cases e1; rw [show kitB "NoneType" "bool" = some false by decide +kernel] at e2; cases e2; exact h, fun h => ⟨_, _, rfl, by decide +kernel, h⟩⟩
theorem nn_yg_bool_str : YG "bool" (.str x) q tg = q (.bl false) := propext ⟨fun ⟨_, _, e1, e2, h⟩ => by cases e1; rw [show kitB "str" "bool" = some false by decide +kernel] at e2; cases e2; exact h, fun h => ⟨_, _, rfl, by decide +kernel, h⟩⟩
theorem nn_yg_bool_lst : YG "bool" (.lst ds) q tg = q (.bl false) := propext ⟨fun ⟨_, _, e1, e2, h⟩ => by cases e1; rw [show kitB "list" "bool" = some false by decide +kernel] at e2; cases e2; exact h, fun h => ⟨_, _, rfl, by decide +kernel, h⟩⟩
theorem nn_yg_bool_tup : YG "bool" (.tup ds) q tg = q (.bl false) := propext ⟨fun ⟨_, _, e1, e2, h⟩ => by cases e1; rw [show kitB "tuple" "bool" = some false by decide +kernel] at e2; cases e2; exact h, fun h => ⟨_, _, rfl, by decide +kernel, h⟩⟩
theorem nn_yg_tuple_int : YG "tuple" (.int a) q tg = q (.bl false) := propext ⟨fun ⟨_, _, e1, e2, h⟩ => by cases e1; rw [show kitB "int" "tuple" = some false by decide +kernel] at e2; cases e2; exact h, fun h => ⟨_, _, rfl, by decide +kernel, h⟩⟩
theorem nn_yg_tuple_bl : YG "tuple" (.bl c) q tg = q (.bl false) := propext ⟨fun ⟨_, _, e1, e2, h⟩ => by cases e1; rw [show kitB "bool" "tuple" = some false by decide +kernel] at e2; cases e2; exact h, fun h => ⟨_, _, rfl, by decide +kernel, h⟩⟩
theorem nn_yg_tuple_non : YG "tuple" .non q tg = q (.bl false) := propext ⟨fun ⟨_, _, e1, e2, h⟩ => by cases e1; rw [show kitB "NoneType" "tuple" = some false by decide +kernel] at e2; cases e2; exact h, fun h => ⟨_, _, rfl, by decide +kernel, h⟩⟩
theorem nn_yg_tuple_str : YG "tuple" (.str x) q tg = q (.bl false) := propext ⟨fun ⟨_, _, e1, e2, h⟩ => by cases e1; rw [show kitB "str" "tuple" = some false by decide +kernel] at e2; cases e2; exact h, fun h => ⟨_, _, rfl, by decide +kernel, h⟩⟩
theorem nn_yg_tuple_lst : YG "tuple" (.lst ds) q tg = q (.bl false) := propext ⟨fun ⟨_, _, e1, e2, h⟩ => by cases e1; rw [show kitB "list" "tuple" = some false by decide +kernel] at e2; cases e2; exact h, fun h => ⟨_, _, rfl, by decide +kernel, h⟩⟩
theorem nn_yg_tuple_tup : YG "tuple" (.tup ds) q tg = q (.bl true) := propext ⟨fun ⟨_, _, e1, e2, h⟩ => by cases e1; rw [show kitB "tuple" "tuple" = some true by decide +kernel] at e2; cases e2; exact h, fun h => ⟨_, _, rfl, by decide +kernel, h⟩⟩
theorem nn_yg_list_int : YG "list" (.int a) q tg = q (.bl false) := propext ⟨fun ⟨_, _, e1, e2, h⟩ => by cases e1; rw [show kitB "int" "list" = some false by decide +kernel] at e2; cases e2; exact h, fun h => ⟨_, _, rfl, by decide +kernel, h⟩⟩
theorem nn_yg_list_bl : YG "list" (.bl c) q tg = q (.bl false) := propext ⟨fun ⟨_, _, e1, e2, h⟩ => by cases e1; rw [show kitB "bool" "list" = some false by decide +kernel] at e2; cases e2; exact h, fun h => ⟨_, _, rfl, by decide +kernel, h⟩⟩
theorem nn_yg_list_non : YG "list" .non q tg = q (.bl false) := propext ⟨fun ⟨_, _, e1, e2, h⟩ => by cases e1; rw [show kitB "NoneType" "list" = some false by decide +kernel] at e2; cases e2; exact h, fun h => ⟨_, _, rfl, by decide +kernel, h⟩⟩
theorem nn_yg_list_str : YG "list" (.str x) q tg = q (.bl false) := propext ⟨fun ⟨_, _, e1, e2, h⟩ => by cases e1; rw [show kitB "str" "list" = some false by decide +kernel] at e2; cases e2; exact h, fun h => ⟨_, _, rfl, by decide +kernel, h⟩⟩
theorem nn_yg_list_lst : YG "list" (.lst ds) q tg = q (.bl true) := propext ⟨fun ⟨_, _, e1, e2, h⟩ => by cases e1; rw [show kitB "list" "list" = some true by decide +kernel] at e2; cases e2; exact h, fun h => ⟨_, _, rfl, by decide +kernel, h⟩⟩
theorem nn_yg_list_tup : YG "list" (.tup ds) q tg = q (.bl false) := propext ⟨fun ⟨_, _, e1, e2, h⟩ => by cases e1; rw [show kitB "tuple" "list" = some false by decide +kernel] at e2; cases e2; exact h, fun h => ⟨_, _, rfl, by decide +kernel, h⟩⟩
theorem nn_yg_str_int : YG "str" (.int a) q tg = q (.bl false) := propext ⟨fun ⟨_, _, e1, e2, h⟩ => by cases e1; rw [show kitB "int" "str" = some false by decide +kernel] at e2; cases e2; exact h, fun h => ⟨_, _, rfl, by decide +kernel, h⟩⟩
theorem nn_yg_str_bl : YG "str" (.bl c) q tg = q (.bl false) := propext ⟨fun ⟨_, _, e1, e2, h⟩ => by cases e1; rw [show kitB "bool" "str" = some false by decide +kernel] at e2; cases e2; exact h, fun h => ⟨_, _, rfl, by decide +kernel, h⟩⟩
theorem nn_yg_str_non : YG "str" .non q tg = q (.bl false) := propext ⟨fun ⟨_, _, e1, e2, h⟩ => by cases e1; rw [show kitB "NoneType" "str" = some false by decide +kernel] at e2; cases e2; exact h, fun h => ⟨_, _, rfl, by decide +kernel, h⟩⟩
theorem nn_yg_str_str : YG "str" (.str x) q tg = q (.bl true) := propext ⟨fun ⟨_, _, e1, e2, h⟩ => by cases e1; rw [show kitB "str" "str" = some true by decide +kernel] at e2; cases e2; exact h, fun h => ⟨_, _, rfl, by decide +kernel, h⟩⟩
theorem nn_yg_str_lst : YG "str" (.lst ds) q tg = q (.bl false) := propext ⟨fun ⟨_, _, e1, e2, h⟩ => by cases e1; rw [show kitB "list" "str" = some false by decide +kernel] at e2; cases e2; exact h, fun h => ⟨_, _, rfl, by decide +kernel, h⟩⟩
theorem nn_yg_str_tup : YG "str" (.tup ds) q tg = q (.bl false) := propext ⟨fun ⟨_, _, e1, e2, h⟩ => by cases e1; rw [show kitB "tuple" "str" = some false by decide +kernel] at e2; cases e2; exact h, fun h => ⟨_, _, rfl, by decide +kernel, h⟩⟩
theorem nn_e_call : rCall sp rr s Q = rr s fun ds s1 => sp ds s1.m fun d m' => Q d ⟨m', s1.sl⟩ := id rfl
theorem nn_e_callK {p q : Nat} {idx : List Nat} : rCallK sp p q idx rr rk s Q = rr s fun ds s1 => rk s1 fun es s2 => ds.length = p ∧ es.length = q ∧ sp (ds ++ idx.filterMap (es[·]?)) s2.m fun d m' => Q d ⟨m', s2.sl⟩ := id rfl
theorem nn_e_isN {ng : Bool} : rIsNone ng ra s Q = ra s fun d s1 => noH d = true ∧ Q (.bl (if ng then !isNonB d else isNonB d)) s1 := id rfl
theorem nn_e_items : rItems ra s Ql = ra s fun d s1 => SG d (fun ds => Ql ds s1) tg := id rfl
theorem nn_sg_lst {K : List D → Prop} : SG (.lst ds) K tg = K ds := ex1 fun _ _ e => Option.some.inj e
theorem nn_sg_tup {K : List D → Prop} : SG (.tup ds) K tg = K ds := ex1 fun _ _ e => Option.some.inj e
theorem nn_sg_scr {ns : List Int} {K : List D → Prop} : SG (.scr ns) K tg = K (ns.map D.int) := ex1 fun _ _ e => Option.some.inj e
theorem nn_e_slN {rl rh : RO} : rSlN i rl rh s Q = rPeek i s fun _ _ => rl s fun l s2 => rh s2 fun h s3 => rPeek i s3 fun d s4 => dSl d l h fun d' => Q d' s4 := id rfl
theorem nn_e_sl {dc : D → Option Int → Option Int → (D → Prop) → Prop} {rl rh : RO} : rSl dc ra rl rh s Q = ra s fun d s1 => rl s1 fun l s2 => rh s2 fun h s3 => dc d l h fun d' => Q d' s3 := id rfl
theorem nn_e_oNone {Qo : Option Int → S → Prop} : rONone s Qo = Qo none s := id rfl
theorem nn_e_oSome {Qo : Option Int → S → Prop} : rOSome ra s Qo = ra s fun d s1 => IG d (fun i => Qo (some i) s1) tg := id rfl
theorem nn_e_yes : rYes s Qb = Qb true s := id rfl
theorem nn_e_lc {ri : RA} {gt : RG} {vs : List Nat} : rLc ri gt ta ra vs s Ql = ri s fun ds s1 => LcG ds s1 gt ta ra vs Ql := id rfl
theorem nn_e_rng1 : rRng1 rr s Ql = rr s fun ds s1 => RG1 ds (fun es => Ql es s1) tg := by
  unfold rRng1 RG1
  rfl
theorem nn_e_RG1 {K : List D → Prop} : RG1 [.int a] K tg = (inR a ∧ K ((List.range a.toNat).map fun i => D.int (0 + (i : Nat)))) := propext ⟨fun ⟨_, e, h⟩ => by cases e; exact h, fun h => ⟨_, rfl, h⟩⟩
theorem nn_e_rng2 : rRng2 rr s Ql = rr s fun ds s1 => RG2 ds (fun es => Ql es s1) tg := by
  unfold rRng2 RG2
  rfl
theorem nn_e_RG2 {K : List D → Prop} : RG2 [.int a, .int b] K tg = (inR a ∧ inR b ∧ K ((List.range (b - a).toNat).map fun m => D.int (a + (m : Nat)))) := propext ⟨fun ⟨_, _, e, h⟩ => by cases e; exact h, fun h => ⟨_, _, rfl, h⟩⟩
theorem nn_e_revRng : rRevRng ra s Ql = ra s fun d s1 => IG d (fun n => inR n ∧ Ql ((List.range n.toNat).map fun i => D.int (0 + ((n.toNat : Nat) : Int) - 1 + ((i : Nat) : Int) * (-1))) s1) tg := id rfl
theorem nn_e_zip : rZip rr s Ql = rr s fun ds s1 => ZG ds (fun es => Ql es s1) tg := by
  unfold rZip ZG
  rfl
theorem nn_zg_tup {K : List D → Prop} : ZG [.tup ds, .tup es] K tg = K (zipD ds es) := propext ⟨fun ⟨_, _, _, _, e, h, q⟩ => (by cases e; rcases h with ⟨h, _⟩ | ⟨h1, h2⟩ <;> first | (cases h; done) | (cases h1; cases h2; exact q)), fun h => ⟨_, _, _, _, rfl, .inr ⟨rfl, rfl⟩, h⟩⟩
theorem nn_zg_lst {K : List D → Prop} : ZG [.lst ds, .lst es] K tg = K (zipD ds es) := propext ⟨fun ⟨_, _, _, _, e, h, q⟩ => (by cases e; rcases h with ⟨h1, h2⟩ | ⟨h, _⟩ <;> first | (cases h1; cases h2; exact q) | (cases h; done)), fun h => ⟨_, _, _, _, rfl, .inl ⟨rfl, rfl⟩, h⟩⟩
theorem nn_e_revF : rRevF ra s Ql = ra s fun d s1 => dRev d fun ds => Ql ds s1 := id rfl
theorem nn_e_lstRg : rLstRg ra s Ql = ra s fun d s1 => IG d (fun n => (0 ≤ n ∧ n ≤ 16777216) ∧ Ql (rgD 0 n) s1) tg := id rfl
theorem nn_o_add_i : dAdd (.int a) (.int b) q = q (.int (a + b)) := id rfl
theorem nn_o_add_b : dAdd (.int a) (.bl c) q = q (.int (a + b2i c)) := id rfl
theorem nn_o_add_t : dAdd (.tup ds) (.tup es) q = (ds.length + es.length ≤ sizeLine ∧ q (.tup (ds ++ es))) := id rfl
theorem nn_o_add_l : dAdd (.lst ds) (.lst es) q = (ds.length + es.length ≤ sizeLine ∧ q (.lst (ds ++ es))) := id rfl
theorem nn_o_sub : dSub (.int a) (.int b) q = q (.int (a - b)) := id rfl
theorem nn_o_mul : dMul (.int a) (.int b) q = (CM a b ∧ q (.int (a * b))) := id rfl
theorem nn_o_mul_l : dMul (.lst ds) (.int b) q = ((-(2 ^ 63) ≤ b ∧ b < 2 ^ 63 ∧ ds.length * b.toNat ≤ sizeLine) ∧ q (.lst (List.replicate b.toNat ds).flatten)) := id rfl
theorem nn_o_div : dDiv (.int a) (.int b) q = (CDivZ b ∧ q (.int (a.fdiv b))) := id rfl
theorem nn_o_mod : dMod (.int a) (.int b) q = (b ≠ 0 ∧ q (.int (a.fmod b))) := id rfl
theorem nn_o_pow : dPow (.int a) (.int b) q = (CPow a b ∧ q (.int (a ^ b.toNat))) := id rfl
theorem nn_o_lt : dLt (.int a) (.int b) q = q (.bl (decide (a < b))) := id rfl
theorem nn_o_le : dLe (.int a) (.int b) q = q (.bl (decide (a ≤ b))) := id rfl
theorem nn_o_gt : dGt (.int a) (.int b) q = q (.bl (decide (b < a))) := id rfl
theorem nn_o_ge : dGe (.int a) (.int b) q = q (.bl (decide (b ≤ a))) := id rfl
theorem nn_o_eq_i : dEq (.int a) (.int b) q = q (.bl (a == b)) := propext ⟨fun h => h.2.2, fun h => ⟨rfl, rfl, h⟩⟩
theorem nn_o_ne_i : dNe (.int a) (.int b) q = q (.bl (!(a == b))) := propext ⟨fun h => h.2.2, fun h => ⟨rfl, rfl, h⟩⟩
theorem nn_o_ix_t : dIx (.tup ds) (.int a) q = PG (atI ds a) q tg := id rfl
theorem nn_o_ix_l : dIx (.lst ds) (.int a) q = PG (atI ds a) q tg := id rfl
theorem nn_o_ix_s {ns : List Int} : dIx (.scr ns) (.int a) q = PG (atI (ns.map D.int) a) q tg := id rfl
theorem nn_o_len_t : dLen (.tup ds) q = q (.int (ds.length : Nat)) := ex1 fun _ _ e => Option.some.inj e
theorem nn_o_len_l : dLen (.lst ds) q = q (.int (ds.length : Nat)) := ex1 fun _ _ e => Option.some.inj e
theorem nn_o_len_s {ns : List Int} : dLen (.scr ns) q = q (.int ((ns.map D.int).length : Nat)) := ex1 fun _ _ e => Option.some.inj e
theorem nn_o_abs : dAbs (.int a) q = q (.int (if a < 0 then -a else a)) := id rfl
theorem nn_o_int_i : dInt (.int a) q = q (.int a) := id rfl
theorem nn_o_int_b : dInt (.bl c) q = q (.int (if c then 1 else 0)) := id rfl
theorem nn_o_tuple : dTuple d q = SG d (fun ds => q (.tup ds)) tg := id rfl
theorem nn_o_list {K : List D → Prop} : dList d K = SG d K tg := id rfl
theorem nn_o_sum_t : dSum (.tup ds) q = ∃ ns : List Int, ds = ns.map D.int ∧ q (.int ns.sum) := by unfold dSum itemsD; simp only [Option.some.injEq]
theorem nn_o_sum_l : dSum (.lst ds) q = ∃ ns : List Int, ds = ns.map D.int ∧ q (.int ns.sum) := by unfold dSum itemsD; simp only [Option.some.injEq]
theorem nn_o_gcd : dGcd (.int a) (.int b) q = q (.int ((Nat.gcd a.natAbs b.natAbs : Nat) : Int)) := id rfl
theorem nn_o_divmod : dDivmod (.int a) (.int b) q = (CDivM b ∧ q (.tup [.int (a / b), .int (a % b)])) := id rfl
theorem nn_o_isB {c' : Bool} : dIsB (.bl c) (.bl c') q = q (.bl (decide (c = c'))) := id rfl
theorem nn_o_notB {c' : Bool} : dNotB (.bl c) (.bl c') q = q (.bl (!decide (c = c'))) := id rfl
theorem nn_o_sl_t {lo hi : Option Int} : dSl (.tup ds) lo hi q = q (.tup (cut ds lo hi)) := id rfl
theorem nn_o_sl_l {lo hi : Option Int} : dSl (.lst ds) lo hi q = q (.lst (cut ds lo hi)) := id rfl
theorem nn_o_rev_l {K : List D → Prop} : dRev (.lst ds) K = K ds.reverse := id rfl
theorem nn_o_all : dAll (.lst ds) q = ∃ bs : List Bool, ds = bs.map D.bl ∧ q (.bl (bs.all fun b => b)) := id rfl
theorem nn_o_any : dAny (.lst ds) q = ∃ bs : List Bool, ds = bs.map D.bl ∧ q (.bl (bs.any fun b => b)) := id rfl
theorem nn_e_put {y : Sl} : put ⟨m, l⟩ i y = ⟨m, l.set i y⟩ := id rfl
theorem nn_pk_mset {ad : Addr} : peekL (mset m ad (.lst ds)) (some (.val (.hnd (.ref ad)))) = some (.lst ds) := by
  show (match mset m ad (.lst ds) ad with
    | some (MO.lst ds) => some (D.lst ds)
    | none => some (D.hnd (.ref ad))) = _
  rw [mset_same]
theorem nn_mset_s {ad : Addr} {o : MO} : mset m ad o ad = some o := mset_same
theorem nn_ix_1_0 : ixN 1 0 = some 0 := id rfl
theorem nn_ix_2_0 : ixN 2 0 = some 0 := id rfl
theorem nn_ix_2_1 : ixN 2 1 = some 1 := id rfl
theorem nn_ix_3_0 : ixN 3 0 = some 0 := id rfl
theorem nn_ix_3_1 : ixN 3 1 = some 1 := id rfl
theorem nn_ix_3_2 : ixN 3 2 = some 2 := id rfl
theorem nn_ix_4_0 : ixN 4 0 = some 0 := id rfl
theorem nn_ix_4_1 : ixN 4 1 = some 1 := id rfl
theorem nn_ix_4_2 : ixN 4 2 = some 2 := id rfl
theorem nn_ix_4_3 : ixN 4 3 = some 3 := id rfl
theorem nn_ix_5_0 : ixN 5 0 = some 0 := id rfl
theorem nn_ix_5_1 : ixN 5 1 = some 1 := id rfl
theorem nn_ix_5_2 : ixN 5 2 = some 2 := id rfl
theorem nn_ix_5_3 : ixN 5 3 = some 3 := id rfl
theorem nn_ix_5_4 : ixN 5 4 = some 4 := id rfl
theorem nn_ix_6_0 : ixN 6 0 = some 0 := id rfl
theorem nn_ix_6_1 : ixN 6 1 = some 1 := id rfl
theorem nn_ix_6_2 : ixN 6 2 = some 2 := id rfl
theorem nn_ix_6_3 : ixN 6 3 = some 3 := id rfl
theorem nn_ix_6_4 : ixN 6 4 = some 4 := id rfl
theorem nn_ix_6_5 : ixN 6 5 = some 5 := id rfl
theorem nn_ix_7_0 : ixN 7 0 = some 0 := id rfl
theorem nn_ix_7_1 : ixN 7 1 = some 1 := id rfl
theorem nn_ix_7_2 : ixN 7 2 = some 2 := id rfl
theorem nn_ix_7_3 : ixN 7 3 = some 3 := id rfl
theorem nn_ix_7_4 : ixN 7 4 = some 4 := id rfl
theorem nn_ix_7_5 : ixN 7 5 = some 5 := id rfl
theorem nn_ix_7_6 : ixN 7 6 = some 6 := id rfl
end
end DL

/-! part M17 -/
namespace DL
open PySem PySem.Spec PyProof.Rows L2
local macro_rules | `(tactic| walk_at "dd") => `(tactic| simp only [↓e_seq, ↓e_next, ↓e_never, ↓e_ifs, ↓e_ret, ↓e_retN, ↓e_drop, ↓e_brk, ↓e_ct, ↓e_set, ↓e_setF, ↓e_par, ↓e_par3, ↓e_aug, ↓e_asg, ↓e_gNm, ↓e_gTp, ↓e_gsNil, ↓e_gsCons, ↓e_app, ↓e_setIx, ↓e_retM, ↓e_for, ↓e_var, ↓e_VGv, ↓e_VGo, ↓e_peek, ↓e_PG, ↓pk_int, ↓pk_bl, ↓pk_non, ↓pk_str, ↓pk_lst, ↓pk_tup, ↓pk_scr, ↓pk_own, ↓e_AGo, ↓e_AGh, ↓e_HG, ↓e_JG, ↓e_C, ↓e_bin, ↓e_b, ↓e_BG, ↓e_IG, ↓e_chn, ↓e_and, ↓e_or, ↓e_not, ↓e_andV, ↓e_orV, ↓e_notV, ↓e_if, ↓e_tru, ↓tg_bl, ↓tg_int, ↓tg_non, ↓tg_lst, ↓tg_tup, ↓e_nil, ↓e_cons, ↓e_tup, ↓e_lst, ↓lg_0, ↓lg_1, ↓lg_2, ↓lg_3, ↓lg_4, ↓lg_5, ↓lg_6, ↓lg_7, ↓lg_8, ↓lg_9, ↓lg_10, ↓lg_11, ↓lg_12, ↓lg_13, ↓lg_14, ↓lg_15, ↓lg_16, ↓e_fz, ↓e_one, ↓e_oneF, ↓e_ixN, ↓e_neg, ↓e_is, ↓yg_int_int, ↓yg_int_bl, ↓yg_int_non, ↓yg_int_str, ↓yg_int_lst, ↓yg_int_tup, ↓yg_bool_int, ↓yg_bool_bl, ↓yg_bool_non, ↓yg_bool_str, ↓yg_bool_lst, ↓yg_bool_tup, ↓yg_tuple_int, ↓yg_tuple_bl, ↓yg_tuple_non, ↓yg_tuple_str, ↓yg_tuple_lst, ↓yg_tuple_tup, ↓yg_list_int, ↓yg_list_bl, ↓yg_list_non, ↓yg_list_str, ↓yg_list_lst, ↓yg_list_tup, ↓yg_str_int, ↓yg_str_bl, ↓yg_str_non, ↓yg_str_str, ↓yg_str_lst, ↓yg_str_tup, ↓e_call, ↓e_callK, ↓e_isN, ↓e_items, ↓sg_lst, ↓sg_tup, ↓sg_scr, ↓e_slN, ↓e_sl, ↓e_oNone, ↓e_oSome, ↓e_yes, ↓e_lc, ↓e_rng1, ↓e_RG1, ↓e_rng2, ↓e_RG2, ↓e_revRng, ↓e_zip, ↓zg_tup, ↓zg_lst, ↓e_revF, ↓e_lstRg, ↓o_add_i, ↓o_add_b, ↓o_add_t, ↓o_add_l, ↓o_sub, ↓o_mul, ↓o_mul_l, ↓o_div, ↓o_mod, ↓o_pow, ↓o_lt, ↓o_le, ↓o_gt, ↓o_ge, ↓o_eq_i, ↓o_ne_i, ↓o_ix_t, ↓o_ix_l, ↓o_ix_s, ↓o_len_t, ↓o_len_l, ↓o_len_s, ↓o_abs, ↓o_int_i, ↓o_int_b, ↓o_tuple, ↓o_list, ↓o_sum_t, ↓o_sum_l, ↓o_gcd, ↓o_divmod, ↓o_isB, ↓o_notB, ↓o_sl_t, ↓o_sl_l, ↓o_rev_l, ↓o_all, ↓o_any, ↓e_put, ↓pk_mset, ↓mset_s, ↓ix_1_0, ↓ix_2_0, ↓ix_2_1, ↓ix_3_0, ↓ix_3_1, ↓ix_3_2, ↓ix_4_0, ↓ix_4_1, ↓ix_4_2, ↓ix_4_3, ↓ix_5_0, ↓ix_5_1, ↓ix_5_2, ↓ix_5_3, ↓ix_5_4, ↓ix_6_0, ↓ix_6_1, ↓ix_6_2, ↓ix_6_3, ↓ix_6_4, ↓ix_6_5, ↓ix_7_0, ↓ix_7_1, ↓ix_7_2, ↓ix_7_3, ↓ix_7_4, ↓ix_7_5, ↓ix_7_6,
  List.length_cons, List.length_nil, List.map_cons, List.map_nil, List.cons_append, List.nil_append, List.append_nil, List.replicate_succ, List.replicate_zero, Nat.reduceSub, Nat.reduceAdd, Nat.reduceLeDiff, Nat.reduceEqDiff, wipeL, List.set_nil, List.set_cons_zero, List.set_cons_succ, List.getElem?_cons_zero, List.getElem?_cons_succ, List.filterMap_cons, List.filterMap_nil, startL, atI_c0, atI_c1, atI_c2, atI_c3, b2i, Option.some.injEq, D.int.injEq, D.bl.injEq, D.tup.injEq, D.lst.injEq, D.str.injEq, List.cons.injEq, and_true, true_and, and_assoc, ↓reduceIte, Bool.false_eq_true, Bool.not_true, Bool.not_false, if_true, if_false, decide_true, decide_false, Int.cast_ofNat_Int, Int.natCast_one, Int.natCast_zero, Int.reduceBEq, beq_self_eq_true, Int.reduceNeg, Int.reduceLT, Int.reduceLE, isNonB, noH, nT, Bool.true_and, Bool.false_and])

/-! ### the law -/
theorem q2_pl {x y : Int} (hy : 0 < y) (lx : Lt 1920 x) (ly : Lt 1920 y) (n : Nat) : (Q2 x y).pl (n + 1) = true := by
  obtain ⟨z, w, g, hg, ex, ey, hzw, hw, e1⟩ := q2_cases (a := x) hy
  rw [e1]
  show ((D.int z).pl n && ((D.int w).pl n && true)) = true
  rw [int_pl (lx.le (part_le hg ex)), int_pl (ly.le (part_le hg ey))]
  rfl
theorem q2_sz (x y : Int) : (Q2 x y).sz = 3868 := rfl
theorem mem_sum {x : Nat} : ∀ {t : List Nat}, x ∈ t → x ≤ t.sum
  | c :: t, h => by
    rw [List.sum_cons]
    rcases List.mem_cons.mp h with h | h
    · omega
    · have := mem_sum h
      omega
theorem tb_lt {t : List Nat} (h : Tb t) : ∀ x ∈ t, x < 8192 := fun x hx => by
  have := mem_sum hx
  have := h.small
  omega
theorem tL_pl {ts : List (List Nat)} (h : ∀ t ∈ ts, Tb t) (n : Nat) : pls (tL ts) (n + 1) = true := pls_all fun d hd => by
  obtain ⟨t, ht, rfl⟩ := List.mem_map.mp hd
  exact nL_pl fun x hx => lt1000 (tb_lt (h t ht) x hx)
theorem tL_sz {ts : List (List Nat)} (h : ∀ t ∈ ts, t.length ≤ 16) : szs (tL ts) ≤ ts.length * 30918 := by
  have := szs_all (c := 30916) (ds := tL ts) fun d hd => by
    obtain ⟨t, ht, rfl⟩ := List.mem_map.mp hd
    show szs (nL t) + 4 ≤ _
    have := nL_sz t
    have := h t ht
    omega
  rw [tL_len] at this
  exact this

theorem pk_lnr {m : M} {row : List Pr} : peekL m (some (.val (LnR row))) = some (LnR row) := rfl
def sp_law : DSp := spEnd
theorem ln_law : ∀ ds m Qd, sp_law ds m Qd → ds.length = 1 := by
  rintro ds m Qd ⟨ns, rfl, _⟩
  rfl
theorem lU_snoc (p : Pr) : ∀ l : List Pr, lU (l ++ [p]) = lU l * mny p
  | [] => rfl
  | q :: l => by
    show lU (l ++ [p]) * mny q = lU l * mny q * mny p
    rw [lU_snoc p l]
    grind
theorem lG_snoc (p : Pr) : ∀ l : List Pr, lG (l ++ [p]) = lG l * siz p
  | [] => rfl
  | q :: l => by
    show lG (l ++ [p]) * siz q = lG l * siz q * siz p
    rw [lG_snoc p l]
    grind
local macro_rules | `(tactic| walk_at "dn") => `(tactic| simp only [↓nn_e_seq, ↓nn_e_next, ↓nn_e_never, ↓nn_e_ifs, ↓nn_e_ret, ↓nn_e_retN, ↓nn_e_drop, ↓nn_e_brk, ↓nn_e_ct, ↓nn_e_set, ↓nn_e_setF, ↓nn_e_par, ↓nn_e_par3, ↓nn_e_aug, ↓nn_e_asg, ↓nn_e_gNm, ↓nn_e_gTp, ↓nn_e_gsNil, ↓nn_e_gsCons, ↓nn_e_app, ↓nn_e_setIx, ↓nn_e_retM, ↓nn_e_for, ↓nn_e_var, ↓nn_e_VGv, ↓nn_e_VGo, ↓nn_e_peek, ↓nn_e_PG, ↓nn_pk_int, ↓nn_pk_bl, ↓nn_pk_non, ↓nn_pk_str, ↓nn_pk_lst, ↓nn_pk_tup, ↓nn_pk_scr, ↓nn_pk_own, ↓nn_e_AGo, ↓nn_e_AGh, ↓nn_e_HG, ↓nn_e_JG, ↓nn_e_C, ↓nn_e_bin, ↓nn_e_b, ↓nn_e_BG, ↓nn_e_IG, ↓nn_e_chn, ↓nn_e_and, ↓nn_e_or, ↓nn_e_not, ↓nn_e_andV, ↓nn_e_orV, ↓nn_e_notV, ↓nn_e_if, ↓nn_e_tru, ↓nn_tg_bl, ↓nn_tg_int, ↓nn_tg_non, ↓nn_tg_lst, ↓nn_tg_tup, ↓nn_e_nil, ↓nn_e_cons, ↓nn_e_tup, ↓nn_e_lst, ↓nn_lg_0, ↓nn_lg_1, ↓nn_lg_2, ↓nn_lg_3, ↓nn_lg_4, ↓nn_lg_5, ↓nn_lg_6, ↓nn_lg_7, ↓nn_lg_8, ↓nn_lg_9, ↓nn_lg_10, ↓nn_lg_11, ↓nn_lg_12, ↓nn_lg_13, ↓nn_lg_14, ↓nn_lg_15, ↓nn_lg_16, ↓nn_e_fz, ↓nn_e_one, ↓nn_e_oneF, ↓nn_e_ixN, ↓nn_e_neg, ↓nn_e_is, ↓nn_yg_int_int, ↓nn_yg_int_bl, ↓nn_yg_int_non, ↓nn_yg_int_str, ↓nn_yg_int_lst, ↓nn_yg_int_tup, ↓nn_yg_bool_int, ↓nn_yg_bool_bl, ↓nn_yg_bool_non, ↓nn_yg_bool_str, ↓nn_yg_bool_lst, ↓nn_yg_bool_tup, ↓nn_yg_tuple_int, ↓nn_yg_tuple_bl, ↓nn_yg_tuple_non, ↓nn_yg_tuple_str, ↓nn_yg_tuple_lst, ↓nn_yg_tuple_tup, ↓nn_yg_list_int, ↓nn_yg_list_bl, ↓nn_yg_list_non, ↓nn_yg_list_str, ↓nn_yg_list_lst, ↓nn_yg_list_tup, ↓nn_yg_str_int, ↓nn_yg_str_bl, ↓nn_yg_str_non, ↓nn_yg_str_str, ↓nn_yg_str_lst, ↓nn_yg_str_tup, ↓nn_e_call, ↓nn_e_callK, ↓nn_e_isN, ↓nn_e_items, ↓nn_sg_lst, ↓nn_sg_tup, ↓nn_sg_scr, ↓nn_e_slN, ↓nn_e_sl, ↓nn_e_oNone, ↓nn_e_oSome, ↓nn_e_yes, ↓nn_e_lc, ↓nn_e_rng1, ↓nn_e_RG1, ↓nn_e_rng2, ↓nn_e_RG2, ↓nn_e_revRng, ↓nn_e_zip, ↓nn_zg_tup, ↓nn_zg_lst, ↓nn_e_revF, ↓nn_e_lstRg, ↓nn_o_add_i, ↓nn_o_add_b, ↓nn_o_add_t, ↓nn_o_add_l, ↓nn_o_sub, ↓nn_o_mul, ↓nn_o_mul_l, ↓nn_o_div, ↓nn_o_mod, ↓nn_o_pow, ↓nn_o_lt, ↓nn_o_le, ↓nn_o_gt, ↓nn_o_ge, ↓nn_o_eq_i, ↓nn_o_ne_i, ↓nn_o_ix_t, ↓nn_o_ix_l, ↓nn_o_ix_s, ↓nn_o_len_t, ↓nn_o_len_l, ↓nn_o_len_s, ↓nn_o_abs, ↓nn_o_int_i, ↓nn_o_int_b, ↓nn_o_tuple, ↓nn_o_list, ↓nn_o_sum_t, ↓nn_o_sum_l, ↓nn_o_gcd, ↓nn_o_divmod, ↓nn_o_isB, ↓nn_o_notB, ↓nn_o_sl_t, ↓nn_o_sl_l, ↓nn_o_rev_l, ↓nn_o_all, ↓nn_o_any, ↓nn_e_put, ↓nn_pk_mset, ↓nn_mset_s, ↓nn_ix_1_0, ↓nn_ix_2_0, ↓nn_ix_2_1, ↓nn_ix_3_0, ↓nn_ix_3_1, ↓nn_ix_3_2, ↓nn_ix_4_0, ↓nn_ix_4_1, ↓nn_ix_4_2, ↓nn_ix_4_3, ↓nn_ix_5_0, ↓nn_ix_5_1, ↓nn_ix_5_2, ↓nn_ix_5_3, ↓nn_ix_5_4, ↓nn_ix_6_0, ↓nn_ix_6_1, ↓nn_ix_6_2, ↓nn_ix_6_3, ↓nn_ix_6_4, ↓nn_ix_6_5, ↓nn_ix_7_0, ↓nn_ix_7_1, ↓nn_ix_7_2, ↓nn_ix_7_3, ↓nn_ix_7_4, ↓nn_ix_7_5, ↓nn_ix_7_6,
  List.length_cons, List.length_nil, List.map_cons, List.map_nil, List.cons_append, List.nil_append, List.append_nil, List.replicate_succ, List.replicate_zero, Nat.reduceSub, Nat.reduceAdd, Nat.reduceLeDiff, Nat.reduceEqDiff, wipeL, List.set_nil, List.set_cons_zero, List.set_cons_succ, List.getElem?_cons_zero, List.getElem?_cons_succ, List.filterMap_cons, List.filterMap_nil, startL, atI_c0, atI_c1, atI_c2, atI_c3, b2i, Option.some.injEq, D.int.injEq, D.bl.injEq, D.tup.injEq, D.lst.injEq, D.str.injEq, List.cons.injEq, and_true, true_and, and_assoc, ↓reduceIte, Bool.false_eq_true, Bool.not_true, Bool.not_false, if_true, if_false, decide_true, decide_false, Int.cast_ofNat_Int, Int.natCast_one, Int.natCast_zero, Int.reduceBEq, beq_self_eq_true, Int.reduceNeg, Int.reduceLT, Int.reduceLE, isNonB, noH, nT, Bool.true_and, Bool.false_and])
local macro_rules | `(tactic| walk_at "dnq") => `(tactic| simp only [pk_q2, pk_ln, pk_lnr, eq_self, ↓nn_e_seq, ↓nn_e_next, ↓nn_e_never, ↓nn_e_ifs, ↓nn_e_ret, ↓nn_e_retN, ↓nn_e_drop, ↓nn_e_brk, ↓nn_e_ct, ↓nn_e_set, ↓nn_e_setF, ↓nn_e_par, ↓nn_e_par3, ↓nn_e_aug, ↓nn_e_asg, ↓nn_e_gNm, ↓nn_e_gTp, ↓nn_e_gsNil, ↓nn_e_gsCons, ↓nn_e_app, ↓nn_e_setIx, ↓nn_e_retM, ↓nn_e_for, ↓nn_e_var, ↓nn_e_VGv, ↓nn_e_VGo, ↓nn_e_peek, ↓nn_e_PG, ↓nn_pk_int, ↓nn_pk_bl, ↓nn_pk_non, ↓nn_pk_str, ↓nn_pk_lst, ↓nn_pk_tup, ↓nn_pk_scr, ↓nn_pk_own, ↓nn_e_AGo, ↓nn_e_AGh, ↓nn_e_HG, ↓nn_e_JG, ↓nn_e_C, ↓nn_e_bin, ↓nn_e_b, ↓nn_e_BG, ↓nn_e_IG, ↓nn_e_chn, ↓nn_e_and, ↓nn_e_or, ↓nn_e_not, ↓nn_e_andV, ↓nn_e_orV, ↓nn_e_notV, ↓nn_e_if, ↓nn_e_tru, ↓nn_tg_bl, ↓nn_tg_int, ↓nn_tg_non, ↓nn_tg_lst, ↓nn_tg_tup, ↓nn_e_nil, ↓nn_e_cons, ↓nn_e_tup, ↓nn_e_lst, ↓nn_lg_0, ↓nn_lg_1, ↓nn_lg_2, ↓nn_lg_3, ↓nn_lg_4, ↓nn_lg_5, ↓nn_lg_6, ↓nn_lg_7, ↓nn_lg_8, ↓nn_lg_9, ↓nn_lg_10, ↓nn_lg_11, ↓nn_lg_12, ↓nn_lg_13, ↓nn_lg_14, ↓nn_lg_15, ↓nn_lg_16, ↓nn_e_fz, ↓nn_e_one, ↓nn_e_oneF, ↓nn_e_ixN, ↓nn_e_neg, ↓nn_e_is, ↓nn_yg_int_int, ↓nn_yg_int_bl, ↓nn_yg_int_non, ↓nn_yg_int_str, ↓nn_yg_int_lst, ↓nn_yg_int_tup, ↓nn_yg_bool_int, ↓nn_yg_bool_bl, ↓nn_yg_bool_non, ↓nn_yg_bool_str, ↓nn_yg_bool_lst, ↓nn_yg_bool_tup, ↓nn_yg_tuple_int, ↓nn_yg_tuple_bl, ↓nn_yg_tuple_non, ↓nn_yg_tuple_str, ↓nn_yg_tuple_lst, ↓nn_yg_tuple_tup, ↓nn_yg_list_int, ↓nn_yg_list_bl, ↓nn_yg_list_non, ↓nn_yg_list_str, ↓nn_yg_list_lst, ↓nn_yg_list_tup, ↓nn_yg_str_int, ↓nn_yg_str_bl, ↓nn_yg_str_non, ↓nn_yg_str_str, ↓nn_yg_str_lst, ↓nn_yg_str_tup, ↓nn_e_call, ↓nn_e_callK, ↓nn_e_isN, ↓nn_e_items, ↓nn_sg_lst, ↓nn_sg_tup, ↓nn_sg_scr, ↓nn_e_slN, ↓nn_e_sl, ↓nn_e_oNone, ↓nn_e_oSome, ↓nn_e_yes, ↓nn_e_lc, ↓nn_e_rng1, ↓nn_e_RG1, ↓nn_e_rng2, ↓nn_e_RG2, ↓nn_e_revRng, ↓nn_e_zip, ↓nn_zg_tup, ↓nn_zg_lst, ↓nn_e_revF, ↓nn_e_lstRg, ↓nn_o_add_i, ↓nn_o_add_b, ↓nn_o_add_t, ↓nn_o_add_l, ↓nn_o_sub, ↓nn_o_mul, ↓nn_o_mul_l, ↓nn_o_div, ↓nn_o_mod, ↓nn_o_pow, ↓nn_o_lt, ↓nn_o_le, ↓nn_o_gt, ↓nn_o_ge, ↓nn_o_eq_i, ↓nn_o_ne_i, ↓nn_o_ix_t, ↓nn_o_ix_l, ↓nn_o_ix_s, ↓nn_o_len_t, ↓nn_o_len_l, ↓nn_o_len_s, ↓nn_o_abs, ↓nn_o_int_i, ↓nn_o_int_b, ↓nn_o_tuple, ↓nn_o_list, ↓nn_o_sum_t, ↓nn_o_sum_l, ↓nn_o_gcd, ↓nn_o_divmod, ↓nn_o_isB, ↓nn_o_notB, ↓nn_o_sl_t, ↓nn_o_sl_l, ↓nn_o_rev_l, ↓nn_o_all, ↓nn_o_any, ↓nn_e_put, ↓nn_pk_mset, ↓nn_mset_s, ↓nn_ix_1_0, ↓nn_ix_2_0, ↓nn_ix_2_1, ↓nn_ix_3_0, ↓nn_ix_3_1, ↓nn_ix_3_2, ↓nn_ix_4_0, ↓nn_ix_4_1, ↓nn_ix_4_2, ↓nn_ix_4_3, ↓nn_ix_5_0, ↓nn_ix_5_1, ↓nn_ix_5_2, ↓nn_ix_5_3, ↓nn_ix_5_4, ↓nn_ix_6_0, ↓nn_ix_6_1, ↓nn_ix_6_2, ↓nn_ix_6_3, ↓nn_ix_6_4, ↓nn_ix_6_5, ↓nn_ix_7_0, ↓nn_ix_7_1, ↓nn_ix_7_2, ↓nn_ix_7_3, ↓nn_ix_7_4, ↓nn_ix_7_5, ↓nn_ix_7_6,
  List.length_cons, List.length_nil, List.map_cons, List.map_nil, List.cons_append, List.nil_append, List.append_nil, List.replicate_succ, List.replicate_zero, Nat.reduceSub, Nat.reduceAdd, Nat.reduceLeDiff, Nat.reduceEqDiff, wipeL, List.set_nil, List.set_cons_zero, List.set_cons_succ, List.getElem?_cons_zero, List.getElem?_cons_succ, List.filterMap_cons, List.filterMap_nil, startL, atI_c0, atI_c1, atI_c2, atI_c3, b2i, Option.some.injEq, D.int.injEq, D.bl.injEq, D.tup.injEq, D.lst.injEq, D.str.injEq, List.cons.injEq, and_true, true_and, and_assoc, ↓reduceIte, Bool.false_eq_true, Bool.not_true, Bool.not_false, if_true, if_false, decide_true, decide_false, Int.cast_ofNat_Int, Int.natCast_one, Int.natCast_zero, Int.reduceBEq, beq_self_eq_true, Int.reduceNeg, Int.reduceLT, Int.reduceLE, isNonB, noH, nT, Bool.true_and, Bool.false_and])
theorem rd_law : ∀ ds m Qd, sp_law ds m Qd → R_law sp_Ulaw_well sp_Ulaw_row sp_Ulaw_pick sp_Ulaw_stack sp_push_letters sp_Ulaw_popped sp_pop_letters sp_lean_of_row sp_Ulaw_lean sp_Ulaw_low sp_Ulaw_is_led sp_times sp_chance_of sp_Ulaw_is_told sp_Ulaw_is_fed { nx := fun s => Qd .non s.m, rt := Qd } ⟨m, startL 15 ds⟩ := by
  rintro ds m Qd ⟨ns, rfl, hns, hm, h⟩
  unfold R_law
  walk_at "dn"
  refine ⟨hns, fun a m1 hw1 => ?_⟩
  try walk_at "dn"
  refine ⟨hw1, fun row m2 ok hw2 => ?_⟩
  try walk_at "dn"
  refine ⟨hw2, fun n m3 hn hw3 => ?_⟩
  try walk_at "dn"
  refine ⟨hw3, ⟨by decide, by decide⟩, fun x m4 hx hw4 => ?_⟩
  obtain ⟨b, hb, rfl⟩ : ∃ b : Nat, (2 ≤ b ∧ b ≤ 256) ∧ x = .int b := by
    have : x = .int 2 ∨ x = .int 3 ∨ x = .int 5 ∨ x = .int 10 ∨ x = .int 16 ∨ x = .int 255 ∨ x = .int 256 := by simpa using hx
    rcases this with rfl | rfl | rfl | rfl | rfl | rfl | rfl
    · exact ⟨2, by decide, rfl⟩
    · exact ⟨3, by decide, rfl⟩
    · exact ⟨5, by decide, rfl⟩
    · exact ⟨10, by decide, rfl⟩
    · exact ⟨16, by decide, rfl⟩
    · exact ⟨255, by decide, rfl⟩
    · exact ⟨256, by decide, rfl⟩
  try walk_at "dn"
  have hl := ok.len
  have ls : Lt 200 (n : Int) := hn
  have hts : ∀ t ∈ row.map (·.1), Tb t := fun t ht => by
    obtain ⟨p, hp, rfl⟩ := List.mem_map.mp ht
    exact (ok.ok p hp).tb
  have hxs : ∀ y ∈ row.map (·.2), y < 8192 := fun y hy => by
    obtain ⟨p, hp, rfl⟩ := List.mem_map.mp hy
    have h1 := (ok.ok p hp).lt
    have h2 := (ok.ok p hp).tb.len
    omega
  have hplW : (D.lst [.tup (rT row), .tup (rL row), .int n]).pl 60 = true := by
    show (pls (rT row) 58 && (pls (rL row) 58 && ((D.int (n : Int)).pl 59 && true))) = true
    rw [show pls (rT row) 58 = true from tL_pl hts 57, show pls (rL row) 58 = true from nL_pl fun y hy => lt1000 (hxs y hy), int_pl ls.up]
    rfl
  have hszW : (D.lst [.tup (rT row), .tup (rL row), .int n]).sz ≤ 16000000 := by
    show szs (rT row) + 4 + 2 + (szs (rL row) + 4 + 2 + (1930 + 2 + 0)) + 4 ≤ 16000000
    have h1 : szs (rT row) ≤ (row.map (·.1)).length * 30918 := tL_sz fun t ht => (hts t ht).len
    have h2 : szs (rL row) ≤ (row.map (·.2)).length * 1932 := nL_sz _
    rw [List.length_map] at h1 h2
    omega
  refine repr_pl hplW hszW ?_
  try walk_at "dn"
  refine ⟨row, n, rfl, rfl, rfl, ok.ok, by omega, ls.up, ?_⟩
  try walk_at "dn"
  obtain ⟨pp1, pp2⟩ := push_row row n ok.ok
  have hp := pushRow_lt row n ok.ok
  have lp : Lt 720 ((pushRow row n : Nat) : Int) := (lt_pow (a := 200) _ hp ls).up (by omega)
  have hp0 : (0 : Int) ≤ (pushRow row n : Nat) := Int.natCast_nonneg _
  rw [decide_eq_false (show ¬ ((pushRow row n : Nat) : Int) < 0 by omega)]
  walk_at "dn"
  refine ⟨row.map (·.1), pushRow row n, rfl, hts, by rw [List.length_map]; omega, lp.up, ?_⟩
  rw [pp1, pp2, show nT (row.map fun x => x.2) = D.tup (rL row) from rfl]
  walk_at "dnq"
  have okP : (D.tup [.tup (rL row), .int n]).ok 60 = true := by
    show (oks (nL (row.map (·.2))) 58 && (true && true)) = true
    rw [nL_ok]
    rfl
  refine ne_self okP ?_
  walk_at "dnq"
  refine ⟨row, n, rfl, rfl, rfl, ok.ok, by omega, ls.up, ?_⟩
  walk_at "dnq"
  have hplP : (D.tup [.tup (rL row), .int n]).pl 60 = true := show (D.tup [nT (row.map fun x => x.2), .int n]).pl 60 = true from pop_pl hxs ls.up
  have hszP : (D.tup [.tup (rL row), .int n]).sz ≤ 16000000 := show (D.tup [nT (row.map fun x => x.2), .int n]).sz ≤ 16000000 from pop_sz (by rw [List.length_map]; omega)
  refine ⟨row.map (·.1), pushRow row n, rfl, rfl, hts, by rw [List.length_map]; omega, lp.up, ?_⟩
  rw [pp1, pp2, show nT (row.map fun x => x.2) = D.tup (rL row) from rfl]
  walk_at "dnq"
  refine repr_pl hplP hszP ?_
  refine ⟨row.map (·.1), pushRow row n, rfl, rfl, hts, by rw [List.length_map]; omega, lp.up, ?_⟩
  rw [pp1, pp2, show nT (row.map fun x => x.2) = D.tup (rL row) from rfl]
  walk_at "dnq"
  refine repr_pl hplP hszP ?_
  try walk_at "dnq"
  refine repr_pl hplP hszP ?_
  try walk_at "dnq"
  have soP : PyData.strOk (rep (D.tup [.tup (rL row), .int n])) = true := rep_so _ (pl_ok _ 60 hplP).2.2
  generalize hrP : rep (D.tup [.tup (rL row), .int n]) = rP at *
  refine ⟨by decide, by decide, by decide, ?_⟩
  rw [show (List.replicate (Int.toNat 2) [D.str rP]).flatten = [D.str rP, D.str rP] from rfl]
  have okS : (D.lst [.str rP, .str rP]).ok 60 = true := by
    show (PyData.strOk rP && (PyData.strOk rP && true)) = true
    rw [soP]
    rfl
  refine ne_self okS ?_
  walk_at "dnq"
  refine ⟨row, rfl, ok, ?_⟩
  try walk_at "dnq"
  refine ⟨row, rfl, ok, ?_⟩
  try walk_at "dnq"
  obtain ⟨f1, f2, f3, f4, f5, f6, f7⟩ := lean_facts ok.ok
  have g3 : Lt 1920 (lG row) := f3.up (by omega)
  have g4 : Lt 1920 (lU row) := f4.up (by omega)
  have g5 : Lt 1920 (lL row) := f5.up (by omega)
  have g6 : Lt 1920 (lH row) := f6.up (by omega)
  have hplL : (LnR row).pl 60 = true := by
    show ((Q2 (lG row) (lU row)).pl 59 && ((Q2 (lL row) (lU row)).pl 59 && ((Q2 (lH row) (lU row)).pl 59 && true))) = true
    rw [q2_pl f2 g3 g4, q2_pl f2 g5 g4, q2_pl f2 g6 g4]
    rfl
  have hszL : (LnR row).sz ≤ 16000000 := by
    show 3868 + 2 + (3868 + 2 + (3868 + 2 + 0)) + 4 ≤ 16000000
    decide
  refine repr_pl hplL hszL ?_
  rw [show cut [D.int (lG row), D.int (lL row), D.int (lH row), D.int (lU row)] none (some 3) = [D.int (lG row), D.int (lL row), D.int (lH row)] from rfl]
  try walk_at "dnq"
  refine lc_map (fun i => Q2 ([lG row, lL row, lH row].getD i 0) (lU row)) rfl (by show 3 ≤ 1000000; decide) (fun i d hd Q' hq => ?_) ?_
  · have hdi : d = .int ([lG row, lL row, lH row].getD i 0) := by
      rcases i with _ | _ | _ | i
      · exact (Option.some.inj hd).symm
      · exact (Option.some.inj hd).symm
      · exact (Option.some.inj hd).symm
      · cases hd
    subst hdi
    walk_at "dnq"
    exact ⟨_, _, rfl, f2, g4.up, hq _ rfl rfl⟩
  rw [show (List.range [D.int (lG row), D.int (lL row), D.int (lH row)].length).map (fun i => Q2 ([lG row, lL row, lH row].getD i 0) (lU row)) = [Q2 (lG row) (lU row), Q2 (lL row) (lU row), Q2 (lH row) (lU row)] from rfl]
  refine repr_pl (d := LnR row) hplL hszL ?_
  refine rep_ne (d := LnR row) hplL ?_
  try walk_at "dnq"
  refine ⟨row, rfl, ok, ?_⟩
  try walk_at "dnq"
  refine repr_pl hplL hszL (repr_pl hplL hszL (rep_ne hplL ?_))
  try walk_at "dnq"
  refine ⟨row, n, rfl, ok, ls, ?_⟩
  try walk_at "dnq"
  rw [show zipD (rT row) (rL row) = zipD (rT row) (rL row) from rfl]
  refine ⟨fun i st => ∃ x y, st = ⟨m4, [.val (.scr ns), .val (.hnd (.ref a)), .val (.tup (rT row)), .val (.tup (rL row)), .val (.int n), .val (.int b), .val (.str (rep (D.lst [.tup (rT row), .tup (rL row), .int n]))), .val (.int (pushRow row n : Nat)), .val (.lst [.str rP, .str rP]), .val (.tup [.int (lG row), .int (lL row), .int (lH row), .int (lU row)]), .val (LnR row), .val (Q2 (lU (row.take i)) (lG (row.take i))), x, y, .no]⟩, ⟨.no, .no, ?_⟩, ?_, ?_⟩
  · rw [List.take_zero, q2_11]
    rfl
  · rintro i d s2 hd ⟨x, y, rfl⟩
    obtain ⟨p, hp, rfl⟩ := zip_at hd
    have hi := (List.getElem?_eq_some_iff.mp hp).1
    have okp := ok.ok p (List.mem_of_getElem? hp)
    obtain ⟨e1, e2, e3, e4, _⟩ := lean_facts (row := row.take i) fun q hq => ok.ok q (List.mem_of_mem_take hq)
    have hti : (row.take i).length ≤ 40 := by rw [List.length_take]; omega
    have e3 : Lt 1000 (lG (row.take i)) := e3.up (by omega)
    have e4 : Lt 1000 (lU (row.take i)) := e4.up (by omega)
    have hs := okp.sz
    have hmp := okp.mp
    have hft := okp.fit
    walk_at "dnq"
    refine ⟨p, rfl, rfl, okp, ?_⟩
    try walk_at "dnq"
    refine ⟨_, _, _, _, rfl, ⟨e1, by omega⟩, ⟨e4.up, e3.up⟩, ⟨(lt13 (show mny p < 8192 by omega)).up, (lt13 hs).up⟩, ?_⟩
    try walk_at "dnq"
    rw [List.take_succ_eq_append_getElem hi, lU_snoc, lG_snoc]
    rw [show row[i] = p by rw [List.getElem?_eq_getElem hi] at hp; exact Option.some.inj hp]
    exact ⟨_, _, rfl⟩
  rintro s2 ⟨x, y, rfl⟩
  rw [zipD_len, rT_len, rL_len, Nat.min_self, List.take_length]
  walk_at "dnq"
  unfold LnR Ln
  walk_at "dnq"
  have g3' : Lt 4000 (lG row) := g3.up
  have g4' : Lt 4000 (lU row) := g4.up
  refine ⟨lU row, lG row, lG row, lU row, rfl, ⟨f1, f2⟩, ⟨g4', g3'⟩, ⟨g3', g4'⟩, ?_⟩
  rw [q2_eq (c := 1) (d := 1) (Int.mul_pos f1 f2) (by decide) (show _ = 1 * (lG row * lU row) by grind)]
  try walk_at "dnq"
  have hplC : (D.lst [Q2 (lU row) (lG row), Q2 1 1]).pl 60 = true := by
    show ((Q2 (lU row) (lG row)).pl 59 && ((Q2 1 1).pl 59 && true)) = true
    rw [q2_pl f1 g4 g3, q2_pl (by decide) (Lt.one.up) (Lt.one.up)]
    rfl
  have hszC : (D.lst [Q2 (lU row) (lG row), Q2 1 1]).sz ≤ 16000000 := by
    show 3868 + 2 + (3868 + 2 + 0) + 4 ≤ 16000000
    decide
  refine repr_pl hplC hszC ?_
  try walk_at "dnq"
  refine ⟨lU row, lG row, rfl, f1, g3.up, ?_⟩
  try walk_at "dnq"
  rw [q2_11]
  refine repr_pl hplC hszC (rep_ne hplC ?_)
  try walk_at "dnq"
  refine ⟨b, n, row, rfl, hb, ok, ls, ?_⟩
  try walk_at "dnq"
  refine ⟨b, pushRow row n, row.map (·.1), rfl, rfl, rfl, hw4, hb, hts, by rw [List.length_map]; exact hl, lp, fun m5 => ?_⟩
  try walk_at "dnq"
  refine repr_pl hplW hszW (rep_eq hplW ?_)
  try walk_at "dnq"
  refine ⟨[], rfl, ⟨by simp, by simp⟩, ?_⟩
  have e0 : LnR [] = D.tup [.tup [.int 1, .int 1], .tup [.int 0, .int 1], .tup [.int 0, .int 1]] := by
    unfold LnR Ln
    show D.tup [Q2 1 1, Q2 0 1, Q2 0 1] = _
    rw [q2_one, q2_one]
  rw [e0]
  have hplE : (D.tup [.tup [.int 1, .int 1], .tup [.int 0, .int 1], .tup [.int 0, .int 1]]).pl 60 = true := by decide +kernel
  have hszE : (D.tup [.tup [.int 1, .int 1], .tup [.int 0, .int 1], .tup [.int 0, .int 1]]).sz ≤ 16000000 := by decide +kernel
  try walk_at "dnq"
  refine repr_pl hplE hszE (repr_pl hplE hszE (rep_eq hplE ?_))
  exact h _

end DL

/-! part K48W -/
namespace DL
open PySem PySem.Spec PyProof.Rows L2
def top (i : Nat) : Stmt := PySem.Challenge.pw_pushedback_k48_whole_digits_of_pushed_ro.main.body.getD i (.Pass ⟨0, 0, 0, 0⟩)
structure Bs (mg : Str → Option Value) : Prop where
  b_isinstance : mg "isinstance" = none
  b_int : mg "int" = none
  b_bool : mg "bool" = none
  b_tuple : mg "tuple" = none
  b_len : mg "len" = none
  b_gcd : mg "gcd" = some (.builtin "math.gcd")
  b_all : mg "all" = none
  b_sum : mg "sum" = none
  b_zip : mg "zip" = none
  b_divmod : mg "divmod" = none
  b_reversed : mg "reversed" = none
  b_range : mg "range" = none
  b_abs : mg "abs" = none
  b_list : mg "list" = none
  b_min : mg "min" = none
  b_max : mg "max" = none
  b_repr : mg "repr" = none
theorem sc_a_want : FnScope ["good", "word"] ["good", "word"] (defScope (top 6)) := ⟨rfl, rfl, rfl, by decide +kernel, rfl, by decide +kernel, by decide +kernel⟩
theorem bn_a_want : BindsAll "a_want" (top 6) ["good", "word"] := fun _ _ _ _ _ _ us h => match us, h with
  | [_, _], _ => rfl
theorem sc_is_integer : FnScope ["thing"] ["thing"] (defScope (top 8)) := ⟨rfl, rfl, rfl, by decide +kernel, rfl, by decide +kernel, by decide +kernel⟩
theorem bn_is_integer : BindsAll "is_integer" (top 8) ["thing"] := fun _ _ _ _ _ _ us h => match us, h with
  | [_], _ => rfl
theorem sc_is_number : FnScope ["thing"] ["thing"] (defScope (top 9)) := ⟨rfl, rfl, rfl, by decide +kernel, rfl, by decide +kernel, by decide +kernel⟩
theorem bn_is_number : BindsAll "is_number" (top 9) ["thing"] := fun _ _ _ _ _ _ us h => match us, h with
  | [_], _ => rfl
theorem sc_is_base : FnScope ["thing"] ["thing"] (defScope (top 10)) := ⟨rfl, rfl, rfl, by decide +kernel, rfl, by decide +kernel, by decide +kernel⟩
theorem bn_is_base : BindsAll "is_base" (top 10) ["thing"] := fun _ _ _ _ _ _ us h => match us, h with
  | [_], _ => rfl
theorem sc_is_quotient : FnScope ["thing", "top", "bottom"] ["thing"] (defScope (top 11)) := ⟨rfl, rfl, rfl, by decide +kernel, rfl, by decide +kernel, by decide +kernel⟩
theorem bn_is_quotient : BindsAll "is_quotient" (top 11) ["thing"] := fun _ _ _ _ _ _ us h => match us, h with
  | [_], _ => rfl
theorem sc_a_is_numbers : FnScope ["thing", "part"] ["thing"] (defScope (top 12)) := ⟨rfl, rfl, rfl, by decide +kernel, rfl, by decide +kernel, by decide +kernel⟩
theorem bn_a_is_numbers : BindsAll "a_is_numbers" (top 12) ["thing"] := fun _ _ _ _ _ _ us h => match us, h with
  | [_], _ => rfl
theorem sc_is_digits : FnScope ["base", "thing", "part"] ["base", "thing"] (defScope (top 13)) := ⟨rfl, rfl, rfl, by decide +kernel, rfl, by decide +kernel, by decide +kernel⟩
theorem bn_is_digits : BindsAll "is_digits" (top 13) ["base", "thing"] := fun _ _ _ _ _ _ us h => match us, h with
  | [_, _], _ => rfl
theorem sc_a_lowest : FnScope ["top", "bottom", "common"] ["top", "bottom"] (defScope (top 15)) := ⟨rfl, rfl, rfl, by decide +kernel, rfl, by decide +kernel, by decide +kernel⟩
theorem bn_a_lowest : BindsAll "a_lowest" (top 15) ["top", "bottom"] := fun _ _ _ _ _ _ us h => match us, h with
  | [_, _], _ => rfl
theorem sc_Uwant_both : FnScope ["one", "other"] ["one", "other"] (defScope (top 16)) := ⟨rfl, rfl, rfl, by decide +kernel, rfl, by decide +kernel, by decide +kernel⟩
theorem bn_Uwant_both : BindsAll "_want_both" (top 16) ["one", "other"] := fun _ _ _ _ _ _ us h => match us, h with
  | [_, _], _ => rfl
theorem sc_plus : FnScope ["one", "other"] ["one", "other"] (defScope (top 17)) := ⟨rfl, rfl, rfl, by decide +kernel, rfl, by decide +kernel, by decide +kernel⟩
theorem bn_plus : BindsAll "plus" (top 17) ["one", "other"] := fun _ _ _ _ _ _ us h => match us, h with
  | [_, _], _ => rfl
theorem sc_minus : FnScope ["one", "other"] ["one", "other"] (defScope (top 18)) := ⟨rfl, rfl, rfl, by decide +kernel, rfl, by decide +kernel, by decide +kernel⟩
theorem bn_minus : BindsAll "minus" (top 18) ["one", "other"] := fun _ _ _ _ _ _ us h => match us, h with
  | [_, _], _ => rfl
theorem sc_times : FnScope ["one", "other"] ["one", "other"] (defScope (top 19)) := ⟨rfl, rfl, rfl, by decide +kernel, rfl, by decide +kernel, by decide +kernel⟩
theorem bn_times : BindsAll "times" (top 19) ["one", "other"] := fun _ _ _ _ _ _ us h => match us, h with
  | [_, _], _ => rfl
theorem sc_over : FnScope ["one", "other"] ["one", "other"] (defScope (top 20)) := ⟨rfl, rfl, rfl, by decide +kernel, rfl, by decide +kernel, by decide +kernel⟩
theorem bn_over : BindsAll "over" (top 20) ["one", "other"] := fun _ _ _ _ _ _ us h => match us, h with
  | [_, _], _ => rfl
theorem sc_compare : FnScope ["one", "other", "left", "right"] ["one", "other"] (defScope (top 21)) := ⟨rfl, rfl, rfl, by decide +kernel, rfl, by decide +kernel, by decide +kernel⟩
theorem bn_compare : BindsAll "compare" (top 21) ["one", "other"] := fun _ _ _ _ _ _ us h => match us, h with
  | [_, _], _ => rfl
theorem sc_Unumbers : FnScope ["thing", "one"] ["thing"] (defScope (top 23)) := ⟨rfl, rfl, rfl, by decide +kernel, rfl, by decide +kernel, by decide +kernel⟩
theorem bn_Unumbers : BindsAll "_numbers" (top 23) ["thing"] := fun _ _ _ _ _ _ us h => match us, h with
  | [_], _ => rfl
theorem sc_is_table : FnScope ["thing"] ["thing"] (defScope (top 24)) := ⟨rfl, rfl, rfl, by decide +kernel, rfl, by decide +kernel, by decide +kernel⟩
theorem bn_is_table : BindsAll "is_table" (top 24) ["thing"] := fun _ _ _ _ _ _ us h => match us, h with
  | [_], _ => rfl
theorem sc_b_stands : FnScope ["table", "letter"] ["table", "letter"] (defScope (top 25)) := ⟨rfl, rfl, rfl, by decide +kernel, rfl, by decide +kernel, by decide +kernel⟩
theorem bn_b_stands : BindsAll "b_stands" (top 25) ["table", "letter"] := fun _ _ _ _ _ _ us h => match us, h with
  | [_, _], _ => rfl
theorem sc_b_table_letter : FnScope ["table", "letter"] ["table", "letter"] (defScope (top 26)) := ⟨rfl, rfl, rfl, by decide +kernel, rfl, by decide +kernel, by decide +kernel⟩
theorem bn_b_table_letter : BindsAll "b_table_letter" (top 26) ["table", "letter"] := fun _ _ _ _ _ _ us h => match us, h with
  | [_, _], _ => rfl
theorem sc_b_are_tables : FnScope ["tables", "table"] ["tables"] (defScope (top 27)) := ⟨rfl, rfl, rfl, by decide +kernel, rfl, by decide +kernel, by decide +kernel⟩
theorem bn_b_are_tables : BindsAll "b_are_tables" (top 27) ["tables"] := fun _ _ _ _ _ _ us h => match us, h with
  | [_], _ => rfl
theorem sc_b_fit : FnScope ["tables", "letters", "table", "letter"] ["tables", "letters"] (defScope (top 28)) := ⟨rfl, rfl, rfl, by decide +kernel, rfl, by decide +kernel, by decide +kernel⟩
theorem bn_b_fit : BindsAll "b_fit" (top 28) ["tables", "letters"] := fun _ _ _ _ _ _ us h => match us, h with
  | [_, _], _ => rfl
theorem sc_b_tables_letters : FnScope ["tables", "letters"] ["tables", "letters"] (defScope (top 29)) := ⟨rfl, rfl, rfl, by decide +kernel, rfl, by decide +kernel, by decide +kernel⟩
theorem bn_b_tables_letters : BindsAll "b_tables_letters" (top 29) ["tables", "letters"] := fun _ _ _ _ _ _ us h => match us, h with
  | [_, _], _ => rfl
theorem sc_chance_of : FnScope ["table", "letter"] ["table", "letter"] (defScope (top 32)) := ⟨rfl, rfl, rfl, by decide +kernel, rfl, by decide +kernel, by decide +kernel⟩
theorem bn_chance_of : BindsAll "chance_of" (top 32) ["table", "letter"] := fun _ _ _ _ _ _ us h => match us, h with
  | [_, _], _ => rfl
theorem sc_is_lean : FnScope ["thing", "one", "growth", "low", "high"] ["thing"] (defScope (top 33)) := ⟨rfl, rfl, rfl, by decide +kernel, rfl, by decide +kernel, by decide +kernel⟩
theorem bn_is_lean : BindsAll "is_lean" (top 33) ["thing"] := fun _ _ _ _ _ _ us h => match us, h with
  | [_], _ => rfl
theorem sc_lean_after : FnScope ["one", "other", "growth", "low", "high", "more", "least", "most"] ["one", "other"] (defScope (top 34)) := ⟨rfl, rfl, rfl, by decide +kernel, rfl, by decide +kernel, by decide +kernel⟩
theorem bn_lean_after : BindsAll "lean_after" (top 34) ["one", "other"] := fun _ _ _ _ _ _ us h => match us, h with
  | [_, _], _ => rfl
theorem sc_lean_back : FnScope ["one", "growth", "low", "high"] ["one"] (defScope (top 35)) := ⟨rfl, rfl, rfl, by decide +kernel, rfl, by decide +kernel, by decide +kernel⟩
theorem bn_lean_back : BindsAll "lean_back" (top 35) ["one"] := fun _ _ _ _ _ _ us h => match us, h with
  | [_], _ => rfl
theorem sc_lean_holds : FnScope ["lean", "stack", "after", "growth", "low", "high", "beyond"] ["lean", "stack", "after"] (defScope (top 36)) := ⟨rfl, rfl, rfl, by decide +kernel, rfl, by decide +kernel, by decide +kernel⟩
theorem bn_lean_holds : BindsAll "lean_holds" (top 36) ["lean", "stack", "after"] := fun _ _ _ _ _ _ us h => match us, h with
  | [_, _, _], _ => rfl
theorem sc_b_lean_by : FnScope ["table", "letter", "size", "many", "ahead", "below", "lost"] ["table", "letter"] (defScope (top 37)) := ⟨rfl, rfl, rfl, by decide +kernel, rfl, by decide +kernel, by decide +kernel⟩
theorem bn_b_lean_by : BindsAll "b_lean_by" (top 37) ["table", "letter"] := fun _ _ _ _ _ _ us h => match us, h with
  | [_, _], _ => rfl
theorem sc_push_by : FnScope ["stack", "table", "letter", "many"] ["stack", "table", "letter"] (defScope (top 39)) := ⟨rfl, rfl, rfl, by decide +kernel, rfl, by decide +kernel, by decide +kernel⟩
theorem bn_push_by : BindsAll "push_by" (top 39) ["stack", "table", "letter"] := fun _ _ _ _ _ _ us h => match us, h with
  | [_, _, _], _ => rfl
theorem sc_pop_by : FnScope ["stack", "table", "laps", "place", "letter"] ["stack", "table"] (defScope (top 40)) := ⟨rfl, rfl, rfl, by decide +kernel, rfl, by decide +kernel, by decide +kernel⟩
theorem bn_pop_by : BindsAll "pop_by" (top 40) ["stack", "table"] := fun _ _ _ _ _ _ us h => match us, h with
  | [_, _], _ => rfl
theorem sc_push_letters : FnScope ["stack", "tables", "letters", "place"] ["stack", "tables", "letters"] (defScope (top 42)) := ⟨rfl, rfl, rfl, by decide +kernel, rfl, by decide +kernel, by decide +kernel⟩
theorem bn_push_letters : BindsAll "push_letters" (top 42) ["stack", "tables", "letters"] := fun _ _ _ _ _ _ us h => match us, h with
  | [_, _, _], _ => rfl
theorem sc_pop_letters : FnScope ["stack", "tables", "letters", "table", "letter"] ["stack", "tables"] (defScope (top 43)) := ⟨rfl, rfl, rfl, by decide +kernel, rfl, by decide +kernel, by decide +kernel⟩
theorem bn_pop_letters : BindsAll "pop_letters" (top 43) ["stack", "tables"] := fun _ _ _ _ _ _ us h => match us, h with
  | [_, _], _ => rfl
theorem sc_lean_of_row : FnScope ["tables", "letters", "whole", "place"] ["tables", "letters"] (defScope (top 44)) := ⟨rfl, rfl, rfl, by decide +kernel, rfl, by decide +kernel, by decide +kernel⟩
theorem bn_lean_of_row : BindsAll "lean_of_row" (top 44) ["tables", "letters"] := fun _ _ _ _ _ _ us h => match us, h with
  | [_, _], _ => rfl
theorem sc_row_of : FnScope ["base", "stack", "digits", "left"] ["base", "stack"] (defScope (top 46)) := ⟨rfl, rfl, rfl, by decide +kernel, rfl, by decide +kernel, by decide +kernel⟩
theorem bn_row_of : BindsAll "row_of" (top 46) ["base", "stack"] := fun _ _ _ _ _ _ us h => match us, h with
  | [_, _], _ => rfl
theorem sc_stack_of : FnScope ["base", "digits"] ["base", "digits"] (defScope (top 47)) := ⟨rfl, rfl, rfl, by decide +kernel, rfl, by decide +kernel, by decide +kernel⟩
theorem bn_stack_of : BindsAll "stack_of" (top 47) ["base", "digits"] := fun _ _ _ _ _ _ us h => match us, h with
  | [_, _], _ => rfl
theorem sc_added : FnScope ["base", "stack", "digits", "total", "digit"] ["base", "stack", "digits"] (defScope (top 48)) := ⟨rfl, rfl, rfl, by decide +kernel, rfl, by decide +kernel, by decide +kernel⟩
theorem bn_added : BindsAll "added" (top 48) ["base", "stack", "digits"] := fun _ _ _ _ _ _ us h => match us, h with
  | [_, _, _], _ => rfl
theorem sc_taken : FnScope ["base", "stack", "many", "digits", "left"] ["base", "stack", "many"] (defScope (top 49)) := ⟨rfl, rfl, rfl, by decide +kernel, rfl, by decide +kernel, by decide +kernel⟩
theorem bn_taken : BindsAll "taken" (top 49) ["base", "stack", "many"] := fun _ _ _ _ _ _ us h => match us, h with
  | [_, _, _], _ => rfl
theorem sc_places_of : FnScope ["base", "number", "many", "left"] ["base", "number"] (defScope (top 51)) := ⟨rfl, rfl, rfl, by decide +kernel, rfl, by decide +kernel, by decide +kernel⟩
theorem bn_places_of : BindsAll "places_of" (top 51) ["base", "number"] := fun _ _ _ _ _ _ us h => match us, h with
  | [_, _], _ => rfl
theorem sc_reach_of : FnScope ["base", "one", "many", "reached"] ["base", "one"] (defScope (top 52)) := ⟨rfl, rfl, rfl, by decide +kernel, rfl, by decide +kernel, by decide +kernel⟩
theorem bn_reach_of : BindsAll "reach_of" (top 52) ["base", "one"] := fun _ _ _ _ _ _ us h => match us, h with
  | [_, _], _ => rfl
theorem sc_Ulaw_well : FnScope ["_law_script", "_law_cell"] ["_law_script"] (defScope (top 54)) := ⟨rfl, rfl, rfl, by decide +kernel, rfl, by decide +kernel, by decide +kernel⟩
theorem bn_Ulaw_well : BindsAll "_law_well" (top 54) ["_law_script"] := fun _ _ _ _ _ _ us h => match us, h with
  | [_], _ => rfl
theorem sc_Ulaw_dip : FnScope ["_law_well_here", "_law_many", "_law_found", "_law_cells", "_law_at", "_law_cell", "_law_stir"] ["_law_well_here", "_law_many"] (defScope (top 55)) := ⟨rfl, rfl, rfl, by decide +kernel, rfl, by decide +kernel, by decide +kernel⟩
theorem bn_Ulaw_dip : BindsAll "_law_dip" (top 55) ["_law_well_here", "_law_many"] := fun _ _ _ _ _ _ us h => match us, h with
  | [_, _], _ => rfl
theorem sc_Ulaw_pick : FnScope ["_law_well_here", "_law_some"] ["_law_well_here", "_law_some"] (defScope (top 56)) := ⟨rfl, rfl, rfl, by decide +kernel, rfl, by decide +kernel, by decide +kernel⟩
theorem bn_Ulaw_pick : BindsAll "_law_pick" (top 56) ["_law_well_here", "_law_some"] := fun _ _ _ _ _ _ us h => match us, h with
  | [_, _], _ => rfl
theorem sc_Ulaw_great : FnScope ["_law_well_here", "_law_many", "_law_found", "_law_k"] ["_law_well_here", "_law_many"] (defScope (top 57)) := ⟨rfl, rfl, rfl, by decide +kernel, rfl, by decide +kernel, by decide +kernel⟩
theorem bn_Ulaw_great : BindsAll "_law_great" (top 57) ["_law_well_here", "_law_many"] := fun _ _ _ _ _ _ us h => match us, h with
  | [_, _], _ => rfl
theorem sc_Ulaw_stack : FnScope ["_law_well_here", "_law_way"] ["_law_well_here"] (defScope (top 58)) := ⟨rfl, rfl, rfl, by decide +kernel, rfl, by decide +kernel, by decide +kernel⟩
theorem bn_Ulaw_stack : BindsAll "_law_stack" (top 58) ["_law_well_here"] := fun _ _ _ _ _ _ us h => match us, h with
  | [_], _ => rfl
theorem sc_Ulaw_low : FnScope ["_law_top", "_law_bottom", "_law_a", "_law_b"] ["_law_top", "_law_bottom"] (defScope (top 59)) := ⟨rfl, rfl, rfl, by decide +kernel, rfl, by decide +kernel, by decide +kernel⟩
theorem bn_Ulaw_low : BindsAll "_law_low" (top 59) ["_law_top", "_law_bottom"] := fun _ _ _ _ _ _ us h => match us, h with
  | [_, _], _ => rfl
theorem sc_Ulaw_counts : FnScope ["_law_well_here", "_law_most", "_law_size", "_law_found", "_law_k"] ["_law_well_here", "_law_most"] (defScope (top 60)) := ⟨rfl, rfl, rfl, by decide +kernel, rfl, by decide +kernel, by decide +kernel⟩
theorem bn_Ulaw_counts : BindsAll "_law_counts" (top 60) ["_law_well_here", "_law_most"] := fun _ _ _ _ _ _ us h => match us, h with
  | [_, _], _ => rfl
theorem sc_Ulaw_row : FnScope ["_law_well_here", "_law_many", "_law_tables", "_law_letters", "_law_k", "_law_table", "_law_x"] ["_law_well_here"] (defScope (top 61)) := ⟨rfl, rfl, rfl, by decide +kernel, rfl, by decide +kernel, by decide +kernel⟩
theorem bn_Ulaw_row : BindsAll "_law_row" (top 61) ["_law_well_here"] := fun _ _ _ _ _ _ us h => match us, h with
  | [_], _ => rfl
theorem sc_Ulaw_popped : FnScope ["_law_stack_here", "_law_tables", "_law_letters", "_law_table", "_law_wide", "_law_turns", "_law_spot", "_law_x"] ["_law_stack_here", "_law_tables"] (defScope (top 62)) := ⟨rfl, rfl, rfl, by decide +kernel, rfl, by decide +kernel, by decide +kernel⟩
theorem bn_Ulaw_popped : BindsAll "_law_popped" (top 62) ["_law_stack_here", "_law_tables"] := fun _ _ _ _ _ _ us h => match us, h with
  | [_, _], _ => rfl
theorem sc_Ulaw_lean : FnScope ["_law_tables", "_law_letters", "_law_grown", "_law_low_here", "_law_high", "_law_under", "_law_k", "_law_table", "_law_x", "_law_wide", "_law_much", "_law_ahead", "_law_gaps", "_law_i"] ["_law_tables", "_law_letters"] (defScope (top 63)) := ⟨rfl, rfl, rfl, by decide +kernel, rfl, by decide +kernel, by decide +kernel⟩
theorem bn_Ulaw_lean : BindsAll "_law_lean" (top 63) ["_law_tables", "_law_letters"] := fun _ _ _ _ _ _ us h => match us, h with
  | [_, _], _ => rfl
theorem sc_Ulaw_is_led : FnScope ["_law_stack_here", "_law_pushed", "_law_four", "_law_lean_here", "_law_grown", "_law_low_here", "_law_high", "_law_under", "_law_least", "_law_most", "_law_some", "_law_back", "_law_after", "_law_due", "_law_told", "_law_pair"] ["_law_stack_here", "_law_pushed", "_law_four", "_law_lean_here"] (defScope (top 64)) := ⟨rfl, rfl, rfl, by decide +kernel, rfl, by decide +kernel, by decide +kernel⟩
theorem bn_Ulaw_is_led : BindsAll "_law_is_led" (top 64) ["_law_stack_here", "_law_pushed", "_law_four", "_law_lean_here"] := fun _ _ _ _ _ _ us h => match us, h with
  | [_, _, _, _], _ => rfl
theorem sc_Ulaw_is_long : FnScope ["_law_base", "_law_one", "_law_many", "_law_found", "_law_far"] ["_law_base", "_law_one", "_law_many"] (defScope (top 65)) := ⟨rfl, rfl, rfl, by decide +kernel, rfl, by decide +kernel, by decide +kernel⟩
theorem bn_Ulaw_is_long : BindsAll "_law_is_long" (top 65) ["_law_base", "_law_one", "_law_many"] := fun _ _ _ _ _ _ us h => match us, h with
  | [_, _, _], _ => rfl
theorem sc_Ulaw_is_told : FnScope ["_law_base", "_law_stack_here", "_law_pushed", "_law_lean_here", "_law_row_here", "_law_found", "_law_digit", "_law_whole", "_law_ends", "_law_edge", "_law_one", "_law_many", "_law_much", "_law_d"] ["_law_base", "_law_stack_here", "_law_pushed", "_law_lean_here"] (defScope (top 66)) := ⟨rfl, rfl, rfl, by decide +kernel, rfl, by decide +kernel, by decide +kernel⟩
theorem bn_Ulaw_is_told : BindsAll "_law_is_told" (top 66) ["_law_base", "_law_stack_here", "_law_pushed", "_law_lean_here"] := fun _ _ _ _ _ _ us h => match us, h with
  | [_, _, _, _], _ => rfl
theorem sc_Ulaw_is_fed : FnScope ["_law_well_here", "_law_base", "_law_pushed", "_law_tables", "_law_more", "_law_cut", "_law_due", "_law_digit", "_law_late", "_law_back", "_law_k"] ["_law_well_here", "_law_base", "_law_pushed", "_law_tables"] (defScope (top 67)) := ⟨rfl, rfl, rfl, by decide +kernel, rfl, by decide +kernel, by decide +kernel⟩
theorem bn_Ulaw_is_fed : BindsAll "_law_is_fed" (top 67) ["_law_well_here", "_law_base", "_law_pushed", "_law_tables"] := fun _ _ _ _ _ _ us h => match us, h with
  | [_, _, _, _], _ => rfl
theorem sc_law : FnScope ["_law_script", "_law_well_here", "_law_tables", "_law_letters", "_law_stack_here", "_law_base", "_law_was", "_law_pushed", "_law_back", "_law_four", "_law_lean_here", "_law_chance", "_law_table", "_law_x", "_law_part"] ["_law_script"] (defScope (top 68)) := ⟨rfl, rfl, rfl, by decide +kernel, rfl, by decide +kernel, by decide +kernel⟩
theorem bn_law : BindsAll "law" (top 68) ["_law_script"] := fun _ _ _ _ _ _ us h => match us, h with
  | [_], _ => rfl
theorem kw_lean_holds_0_after_stack_lean : BindsKw "lean_holds" (top 36) ["lean", "stack", "after"] 0 ["after", "stack", "lean"] [2, 1, 0] := fun _ _ _ _ _ _ us ws h1 h2 => match us, ws, h1, h2 with
  | [], [_, _, _], _, _ => rfl
theorem kw_stack_of_0_digits_base : BindsKw "stack_of" (top 47) ["base", "digits"] 0 ["digits", "base"] [1, 0] := fun _ _ _ _ _ _ us ws h1 h2 => match us, ws, h1, h2 with
  | [], [_, _], _, _ => rfl
theorem kw_added_0_digits_base_stack : BindsKw "added" (top 48) ["base", "stack", "digits"] 0 ["digits", "base", "stack"] [1, 2, 0] := fun _ _ _ _ _ _ us ws h1 h2 => match us, ws, h1, h2 with
  | [], [_, _, _], _, _ => rfl
theorem kw_push_letters_0_letters_tables_stack : BindsKw "push_letters" (top 42) ["stack", "tables", "letters"] 0 ["letters", "tables", "stack"] [2, 1, 0] := fun _ _ _ _ _ _ us ws h1 h2 => match us, ws, h1, h2 with
  | [], [_, _, _], _, _ => rfl
theorem kw_pop_letters_0_tables_stack : BindsKw "pop_letters" (top 43) ["stack", "tables"] 0 ["tables", "stack"] [1, 0] := fun _ _ _ _ _ _ us ws h1 h2 => match us, ws, h1, h2 with
  | [], [_, _], _, _ => rfl
theorem kw_lean_of_row_0_letters_tables : BindsKw "lean_of_row" (top 44) ["tables", "letters"] 0 ["letters", "tables"] [1, 0] := fun _ _ _ _ _ _ us ws h1 h2 => match us, ws, h1, h2 with
  | [], [_, _], _, _ => rfl
section
variable {P : Program} {w : World} {K : PySem.W.Frag} {mg : Str → Option Value} {base : Heap}
theorem w_a_want (T : At K mg "a_want" (top 6))   : Ok P w K mg base "a_want" (top 6) ["good", "word"] 1 sp_a_want :=
  ok_of T sc_a_want ln_a_want fun cdv A out s H E hr hg => by
    have nd := (sc_a_want).nd
    exact ⟨_, show DSs _ _ (R_a_want ) from (ds_one (ds_if (dt_not (dt_tru (dp_var (pv 0)))) (ds_one ds_never) ds_nil)), rd_a_want⟩
theorem w_is_integer (T : At K mg "is_integer" (top 8)) (hB : Bs mg)   : Ok P w K mg base "is_integer" (top 8) ["thing"] 1 sp_is_integer :=
  ok_of T sc_is_integer ln_is_integer fun cdv A out s H E hr hg => by
    have nd := (sc_is_integer).nd
    exact ⟨_, show DSs _ _ (R_is_integer ) from (ds_one (ds_ret (de_and (de_isi rfl hB.b_isinstance (de_var (pv 0)) (pe_tyN rfl hB.b_int)) (de_one (de_not (de_isi rfl hB.b_isinstance (de_var (pv 0)) (pe_tyN rfl hB.b_bool))))))), rd_is_integer⟩
theorem w_is_number (T : At K mg "is_number" (top 9)) (c_is_integer : Ok P w K mg base "is_integer" (top 8) ["thing"] 1 sp_is_integer)  : Ok P w K mg base "is_number" (top 9) ["thing"] 2 sp_is_number :=
  ok_of T sc_is_number ln_is_number fun cdv A out s H E hr hg => by
    have nd := (sc_is_number).nd
    exact ⟨_, show DSs _ _ (R_is_number sp_is_integer) from (ds_one (ds_ret (de_and (cl c_is_integer bn_is_integer hr hg (da_cons (de_var (pv 0)) da_nil)) (de_one (de_cmp does_ge (de_var (pv 0)) (de_int (i := 0)) rfl))))), rd_is_number⟩
theorem w_is_base (T : At K mg "is_base" (top 10)) (c_is_integer : Ok P w K mg base "is_integer" (top 8) ["thing"] 1 sp_is_integer)  : Ok P w K mg base "is_base" (top 10) ["thing"] 2 sp_is_base :=
  ok_of T sc_is_base ln_is_base fun cdv A out s H E hr hg => by
    have nd := (sc_is_base).nd
    exact ⟨_, show DSs _ _ (R_is_base sp_is_integer) from (ds_one (ds_ret (de_and (cl c_is_integer bn_is_integer hr hg (da_cons (de_var (pv 0)) da_nil)) (de_one (de_chain does_le does_le (de_int (i := 2)) (de_var (pv 0)) (de_int (i := 256))))))), rd_is_base⟩
theorem w_is_quotient (T : At K mg "is_quotient" (top 11)) (hB : Bs mg) (c_is_integer : Ok P w K mg base "is_integer" (top 8) ["thing"] 1 sp_is_integer)  : Ok P w K mg base "is_quotient" (top 11) ["thing"] 2 sp_is_quotient :=
  ok_of T sc_is_quotient ln_is_quotient fun cdv A out s H E hr hg => by
    have nd := (sc_is_quotient).nd
    exact ⟨_, show DSs _ _ (R_is_quotient sp_is_integer) from (ds_cons (ds_if (dt_w (dw_or (dt_not (dt_tru (dp_of (de_isi rfl hB.b_isinstance (de_var (pv 0)) (pe_tyN rfl hB.b_tuple))))) (dw_or1 (dt_cmp (does_ne hr.units) (de_call1 does_len rfl hB.b_len (by decide +kernel) (dp_var (pv 0))) (de_int (i := 2)) rfl)))) (ds_one (ds_ret (de_bl (b := false)))) ds_nil) (ds_cons (ds_asg (de_var (pv 0)) (dg_tup rfl (dgs_cons (dg_name nd rfl (by first | exact Or.inl rfl | exact Or.inr rfl)) (dgs_cons (dg_name nd rfl (by first | exact Or.inl rfl | exact Or.inr rfl)) dgs_nil)))) (ds_cons (ds_if (dt_w (dw_or (dt_not (dt_tru (dp_of (cl c_is_integer bn_is_integer hr hg (da_cons (de_var (pv 1)) da_nil))))) (dw_or (dt_not (dt_tru (dp_of (cl c_is_integer bn_is_integer hr hg (da_cons (de_var (pv 2)) da_nil))))) (dw_or1 (dt_cmp (does_lt hr.units0) (de_var (pv 2)) (de_int (i := 1)) rfl))))) (ds_one (ds_ret (de_bl (b := false)))) ds_nil) (ds_one (ds_ret (de_cmp (does_eq hr.units) (de_callG2 does_gcd rfl hB.b_gcd (de_var (pv 1)) (de_var (pv 2))) (de_int (i := 1)) rfl)))))), rd_is_quotient⟩
theorem w_a_is_numbers (T : At K mg "a_is_numbers" (top 12)) (hB : Bs mg) (c_is_number : Ok P w K mg base "is_number" (top 9) ["thing"] 2 sp_is_number)  : Ok P w K mg base "a_is_numbers" (top 12) ["thing"] 3 sp_a_is_numbers :=
  ok_of T sc_a_is_numbers ln_a_is_numbers fun cdv A out s H E hr hg => by
    have nd := (sc_a_is_numbers).nd
    exact ⟨_, show DSs _ _ (R_a_is_numbers sp_is_number) from (ds_one (ds_ret (de_and (de_isi rfl hB.b_isinstance (de_var (pv 0)) (pe_tyN rfl hB.b_tuple)) (de_one (de_call1 (does_all rfl) rfl hB.b_all (by decide +kernel) (dp_of (de_df (df_lcV rfl rfl nd (di_seq (de_var (pv 0))) (blkOk_by (own := [("part", 1)]) (N := ["thing", "part"]) (sc := defScope (top 12)) (by decide +kernel)) (fun _ _ _ _ _ => (dg_name nd rfl (by first | exact Or.inl rfl | exact Or.inr rfl))) (fun _ _ _ _ _ => dts_nil) (fun _ _ _ _ _ => (cl c_is_number bn_is_number hr hg (da_cons (de_var (pv 1)) da_nil))) (by decide))))))))), rd_a_is_numbers⟩
theorem w_is_digits (T : At K mg "is_digits" (top 13)) (hB : Bs mg) (c_a_want : Ok P w K mg base "a_want" (top 6) ["good", "word"] 1 sp_a_want) (c_is_base : Ok P w K mg base "is_base" (top 10) ["thing"] 2 sp_is_base) (c_a_is_numbers : Ok P w K mg base "a_is_numbers" (top 12) ["thing"] 3 sp_a_is_numbers)  : Ok P w K mg base "is_digits" (top 13) ["base", "thing"] 4 sp_is_digits :=
  ok_of T sc_is_digits ln_is_digits fun cdv A out s H E hr hg => by
    have nd := (sc_is_digits).nd
    exact ⟨_, show DSs _ _ (R_is_digits sp_a_want sp_is_base sp_a_is_numbers) from (ds_cons (ds_expr (cl c_a_want bn_a_want hr hg (da_cons (cl c_is_base bn_is_base hr hg (da_cons (de_var (pv 0)) da_nil)) (da_cons (de_str (x := "base")) da_nil)))) (ds_one (ds_ret (de_and (cl c_a_is_numbers bn_a_is_numbers hr hg (da_cons (de_var (pv 1)) da_nil)) (de_one (de_call1 (does_all rfl) rfl hB.b_all (by decide +kernel) (dp_of (de_df (df_lcV rfl rfl nd (di_seq (de_var (pv 1))) (blkOk_by (own := [("part", 2)]) (N := ["base", "thing", "part"]) (sc := defScope (top 13)) (by decide +kernel)) (fun _ _ _ _ _ => (dg_name nd rfl (by first | exact Or.inl rfl | exact Or.inr rfl))) (fun _ _ _ _ _ => dts_nil) (fun _ _ _ _ _ => (de_cmp (does_lt hr.units0) (de_var (pv 2)) (de_var (pv 0)) rfl)) (by decide)))))))))), rd_is_digits⟩
theorem w_a_lowest (T : At K mg "a_lowest" (top 15)) (hB : Bs mg)   : Ok P w K mg base "a_lowest" (top 15) ["top", "bottom"] 1 sp_a_lowest :=
  ok_of T sc_a_lowest ln_a_lowest fun cdv A out s H E hr hg => by
    have nd := (sc_a_lowest).nd
    exact ⟨_, show DSs _ _ (R_a_lowest ) from (ds_cons (ds_set nd rfl (by first | exact Or.inl rfl | exact Or.inr rfl) (de_callG2 does_gcd rfl hB.b_gcd (de_var (pv 0)) (de_var (pv 1)))) (ds_cons (ds_if (dt_cmp (does_lt hr.units0) (de_var (pv 1)) (de_int (i := 0)) rfl) (ds_one (ds_set nd rfl (by first | exact Or.inl rfl | exact Or.inr rfl) (de_neg (de_var (pv 2))))) ds_nil) (ds_one (ds_ret (de_tup (da_cons (de_bin does_div (de_var (pv 0)) (de_var (pv 2))) (da_cons (de_bin does_div (de_var (pv 1)) (de_var (pv 2))) da_nil))))))), rd_a_lowest⟩
theorem w_Uwant_both (T : At K mg "_want_both" (top 16)) (c_a_want : Ok P w K mg base "a_want" (top 6) ["good", "word"] 1 sp_a_want) (c_is_quotient : Ok P w K mg base "is_quotient" (top 11) ["thing"] 2 sp_is_quotient)  : Ok P w K mg base "_want_both" (top 16) ["one", "other"] 3 sp_Uwant_both :=
  ok_of T sc_Uwant_both ln_Uwant_both fun cdv A out s H E hr hg => by
    have nd := (sc_Uwant_both).nd
    exact ⟨_, show DSs _ _ (R_Uwant_both sp_a_want sp_is_quotient) from (ds_cons (ds_expr (cl c_a_want bn_a_want hr hg (da_cons (cl c_is_quotient bn_is_quotient hr hg (da_cons (de_var (pv 0)) da_nil)) (da_cons (de_str (x := "one")) da_nil)))) (ds_one (ds_expr (cl c_a_want bn_a_want hr hg (da_cons (cl c_is_quotient bn_is_quotient hr hg (da_cons (de_var (pv 1)) da_nil)) (da_cons (de_str (x := "other")) da_nil)))))), rd_Uwant_both⟩
theorem w_plus (T : At K mg "plus" (top 17)) (c_Uwant_both : Ok P w K mg base "_want_both" (top 16) ["one", "other"] 3 sp_Uwant_both) (c_a_lowest : Ok P w K mg base "a_lowest" (top 15) ["top", "bottom"] 1 sp_a_lowest)  : Ok P w K mg base "plus" (top 17) ["one", "other"] 4 sp_plus :=
  ok_of T sc_plus ln_plus fun cdv A out s H E hr hg => by
    have nd := (sc_plus).nd
    exact ⟨_, show DSs _ _ (R_plus sp_Uwant_both sp_a_lowest) from (ds_cons (ds_expr (cl c_Uwant_both bn_Uwant_both hr hg (da_cons (de_var (pv 0)) (da_cons (de_var (pv 1)) da_nil)))) (ds_one (ds_ret (cl c_a_lowest bn_a_lowest hr hg (da_cons (de_bin does_add (de_bin does_mul (de_ixN (pv 0) (de_int (i := 0)) (fun _ _ => rfl)) (de_ixN (pv 1) (de_int (i := 1)) (fun _ _ => rfl))) (de_bin does_mul (de_ixN (pv 1) (de_int (i := 0)) (fun _ _ => rfl)) (de_ixN (pv 0) (de_int (i := 1)) (fun _ _ => rfl)))) (da_cons (de_bin does_mul (de_ixN (pv 0) (de_int (i := 1)) (fun _ _ => rfl)) (de_ixN (pv 1) (de_int (i := 1)) (fun _ _ => rfl))) da_nil)))))), rd_plus⟩
theorem w_minus (T : At K mg "minus" (top 18)) (c_Uwant_both : Ok P w K mg base "_want_both" (top 16) ["one", "other"] 3 sp_Uwant_both) (c_a_lowest : Ok P w K mg base "a_lowest" (top 15) ["top", "bottom"] 1 sp_a_lowest)  : Ok P w K mg base "minus" (top 18) ["one", "other"] 4 sp_minus :=
  ok_of T sc_minus ln_minus fun cdv A out s H E hr hg => by
    have nd := (sc_minus).nd
    exact ⟨_, show DSs _ _ (R_minus sp_Uwant_both sp_a_lowest) from (ds_cons (ds_expr (cl c_Uwant_both bn_Uwant_both hr hg (da_cons (de_var (pv 0)) (da_cons (de_var (pv 1)) da_nil)))) (ds_one (ds_ret (cl c_a_lowest bn_a_lowest hr hg (da_cons (de_bin does_sub (de_bin does_mul (de_ixN (pv 0) (de_int (i := 0)) (fun _ _ => rfl)) (de_ixN (pv 1) (de_int (i := 1)) (fun _ _ => rfl))) (de_bin does_mul (de_ixN (pv 1) (de_int (i := 0)) (fun _ _ => rfl)) (de_ixN (pv 0) (de_int (i := 1)) (fun _ _ => rfl)))) (da_cons (de_bin does_mul (de_ixN (pv 0) (de_int (i := 1)) (fun _ _ => rfl)) (de_ixN (pv 1) (de_int (i := 1)) (fun _ _ => rfl))) da_nil)))))), rd_minus⟩
theorem w_times (T : At K mg "times" (top 19)) (c_Uwant_both : Ok P w K mg base "_want_both" (top 16) ["one", "other"] 3 sp_Uwant_both) (c_a_lowest : Ok P w K mg base "a_lowest" (top 15) ["top", "bottom"] 1 sp_a_lowest)  : Ok P w K mg base "times" (top 19) ["one", "other"] 4 sp_times :=
  ok_of T sc_times ln_times fun cdv A out s H E hr hg => by
    have nd := (sc_times).nd
    exact ⟨_, show DSs _ _ (R_times sp_Uwant_both sp_a_lowest) from (ds_cons (ds_expr (cl c_Uwant_both bn_Uwant_both hr hg (da_cons (de_var (pv 0)) (da_cons (de_var (pv 1)) da_nil)))) (ds_one (ds_ret (cl c_a_lowest bn_a_lowest hr hg (da_cons (de_bin does_mul (de_ixN (pv 0) (de_int (i := 0)) (fun _ _ => rfl)) (de_ixN (pv 1) (de_int (i := 0)) (fun _ _ => rfl))) (da_cons (de_bin does_mul (de_ixN (pv 0) (de_int (i := 1)) (fun _ _ => rfl)) (de_ixN (pv 1) (de_int (i := 1)) (fun _ _ => rfl))) da_nil)))))), rd_times⟩
theorem w_over (T : At K mg "over" (top 20)) (c_Uwant_both : Ok P w K mg base "_want_both" (top 16) ["one", "other"] 3 sp_Uwant_both) (c_a_want : Ok P w K mg base "a_want" (top 6) ["good", "word"] 1 sp_a_want) (c_a_lowest : Ok P w K mg base "a_lowest" (top 15) ["top", "bottom"] 1 sp_a_lowest)  : Ok P w K mg base "over" (top 20) ["one", "other"] 4 sp_over :=
  ok_of T sc_over ln_over fun cdv A out s H E hr hg => by
    have nd := (sc_over).nd
    exact ⟨_, show DSs _ _ (R_over sp_Uwant_both sp_a_want sp_a_lowest) from (ds_cons (ds_expr (cl c_Uwant_both bn_Uwant_both hr hg (da_cons (de_var (pv 0)) (da_cons (de_var (pv 1)) da_nil)))) (ds_cons (ds_expr (cl c_a_want bn_a_want hr hg (da_cons (de_cmp (does_ne hr.units) (de_ixN (pv 1) (de_int (i := 0)) (fun _ _ => rfl)) (de_int (i := 0)) rfl) (da_cons (de_str (x := "other")) da_nil)))) (ds_one (ds_ret (cl c_a_lowest bn_a_lowest hr hg (da_cons (de_bin does_mul (de_ixN (pv 0) (de_int (i := 0)) (fun _ _ => rfl)) (de_ixN (pv 1) (de_int (i := 1)) (fun _ _ => rfl))) (da_cons (de_bin does_mul (de_ixN (pv 0) (de_int (i := 1)) (fun _ _ => rfl)) (de_ixN (pv 1) (de_int (i := 0)) (fun _ _ => rfl))) da_nil))))))), rd_over⟩
theorem w_compare (T : At K mg "compare" (top 21)) (c_Uwant_both : Ok P w K mg base "_want_both" (top 16) ["one", "other"] 3 sp_Uwant_both)  : Ok P w K mg base "compare" (top 21) ["one", "other"] 4 sp_compare :=
  ok_of T sc_compare ln_compare fun cdv A out s H E hr hg => by
    have nd := (sc_compare).nd
    exact ⟨_, show DSs _ _ (R_compare sp_Uwant_both) from (ds_cons (ds_expr (cl c_Uwant_both bn_Uwant_both hr hg (da_cons (de_var (pv 0)) (da_cons (de_var (pv 1)) da_nil)))) (ds_cons (ds_set nd rfl (by first | exact Or.inl rfl | exact Or.inr rfl) (de_bin does_mul (de_ixN (pv 0) (de_int (i := 0)) (fun _ _ => rfl)) (de_ixN (pv 1) (de_int (i := 1)) (fun _ _ => rfl)))) (ds_cons (ds_set nd rfl (by first | exact Or.inl rfl | exact Or.inr rfl) (de_bin does_mul (de_ixN (pv 1) (de_int (i := 0)) (fun _ _ => rfl)) (de_ixN (pv 0) (de_int (i := 1)) (fun _ _ => rfl)))) (ds_cons (ds_if (dt_cmp (does_lt hr.units0) (de_var (pv 2)) (de_var (pv 3)) rfl) (ds_one (ds_ret (de_neg (de_int (i := 1))))) ds_nil) (ds_one (ds_ret (de_if (dt_cmp does_gt (de_var (pv 2)) (de_var (pv 3)) rfl) (de_int (i := 1)) (de_int (i := 0))))))))), rd_compare⟩
theorem w_Unumbers (T : At K mg "_numbers" (top 23)) (hB : Bs mg) (c_is_number : Ok P w K mg base "is_number" (top 9) ["thing"] 2 sp_is_number)  : Ok P w K mg base "_numbers" (top 23) ["thing"] 3 sp_Unumbers :=
  ok_of T sc_Unumbers ln_Unumbers fun cdv A out s H E hr hg => by
    have nd := (sc_Unumbers).nd
    exact ⟨_, show DSs _ _ (R_Unumbers sp_is_number) from (ds_cons (ds_if (dt_not (dt_tru (dp_of (de_isi rfl hB.b_isinstance (de_var (pv 0)) (pe_tyN rfl hB.b_tuple))))) (ds_one (ds_ret (de_bl (b := false)))) ds_nil) (ds_cons (ds_for PassesOwn.never rfl (di_seq (de_var (pv 0))) (dg_name nd rfl (by first | exact Or.inl rfl | exact Or.inr rfl)) (ds_one (ds_if (dt_not (dt_tru (dp_of (cl c_is_number bn_is_number hr hg (da_cons (de_var (pv 1)) da_nil))))) (ds_one (ds_ret (de_bl (b := false)))) ds_nil))) (ds_one (ds_ret (de_bl (b := true)))))), rd_Unumbers⟩
theorem w_is_table (T : At K mg "is_table" (top 24)) (hB : Bs mg) (c_Unumbers : Ok P w K mg base "_numbers" (top 23) ["thing"] 3 sp_Unumbers)  : Ok P w K mg base "is_table" (top 24) ["thing"] 4 sp_is_table :=
  ok_of T sc_is_table ln_is_table fun cdv A out s H E hr hg => by
    have nd := (sc_is_table).nd
    exact ⟨_, show DSs _ _ (R_is_table sp_Unumbers) from (ds_one (ds_ret (de_and (cl c_Unumbers bn_Unumbers hr hg (da_cons (de_var (pv 0)) da_nil)) (de_one (de_cmp does_gt (de_call1 (does_sum rfl) rfl hB.b_sum (by decide +kernel) (dp_var (pv 0))) (de_int (i := 0)) rfl))))), rd_is_table⟩
theorem w_b_stands (T : At K mg "b_stands" (top 25)) (hB : Bs mg) (c_is_number : Ok P w K mg base "is_number" (top 9) ["thing"] 2 sp_is_number)  : Ok P w K mg base "b_stands" (top 25) ["table", "letter"] 3 sp_b_stands :=
  ok_of T sc_b_stands ln_b_stands fun cdv A out s H E hr hg => by
    have nd := (sc_b_stands).nd
    exact ⟨_, show DSs _ _ (R_b_stands sp_is_number) from (ds_one (ds_ret (de_and (cl c_is_number bn_is_number hr hg (da_cons (de_var (pv 1)) da_nil)) (de_and (de_cmp (does_lt hr.units0) (de_var (pv 1)) (de_call1 does_len rfl hB.b_len (by decide +kernel) (dp_var (pv 0))) rfl) (de_one (de_cmp does_gt (de_ixN (pv 0) (de_var (pv 1)) (fun _ _ => rfl)) (de_int (i := 0)) rfl)))))), rd_b_stands⟩
theorem w_b_table_letter (T : At K mg "b_table_letter" (top 26)) (c_a_want : Ok P w K mg base "a_want" (top 6) ["good", "word"] 1 sp_a_want) (c_is_table : Ok P w K mg base "is_table" (top 24) ["thing"] 4 sp_is_table) (c_b_stands : Ok P w K mg base "b_stands" (top 25) ["table", "letter"] 3 sp_b_stands)  : Ok P w K mg base "b_table_letter" (top 26) ["table", "letter"] 5 sp_b_table_letter :=
  ok_of T sc_b_table_letter ln_b_table_letter fun cdv A out s H E hr hg => by
    have nd := (sc_b_table_letter).nd
    exact ⟨_, show DSs _ _ (R_b_table_letter sp_a_want sp_is_table sp_b_stands) from (ds_cons (ds_expr (cl c_a_want bn_a_want hr hg (da_cons (cl c_is_table bn_is_table hr hg (da_cons (de_var (pv 0)) da_nil)) (da_cons (de_str (x := "table")) da_nil)))) (ds_one (ds_expr (cl c_a_want bn_a_want hr hg (da_cons (cl c_b_stands bn_b_stands hr hg (da_cons (de_var (pv 0)) (da_cons (de_var (pv 1)) da_nil))) (da_cons (de_str (x := "letter")) da_nil)))))), rd_b_table_letter⟩
theorem w_b_are_tables (T : At K mg "b_are_tables" (top 27)) (hB : Bs mg) (c_is_table : Ok P w K mg base "is_table" (top 24) ["thing"] 4 sp_is_table)  : Ok P w K mg base "b_are_tables" (top 27) ["tables"] 5 sp_b_are_tables :=
  ok_of T sc_b_are_tables ln_b_are_tables fun cdv A out s H E hr hg => by
    have nd := (sc_b_are_tables).nd
    exact ⟨_, show DSs _ _ (R_b_are_tables sp_is_table) from (ds_cons (ds_if (dt_not (dt_tru (dp_of (de_isi rfl hB.b_isinstance (de_var (pv 0)) (pe_tyN rfl hB.b_tuple))))) (ds_one (ds_ret (de_bl (b := false)))) ds_nil) (ds_cons (ds_for PassesOwn.never rfl (di_seq (de_var (pv 0))) (dg_name nd rfl (by first | exact Or.inl rfl | exact Or.inr rfl)) (ds_one (ds_if (dt_not (dt_tru (dp_of (cl c_is_table bn_is_table hr hg (da_cons (de_var (pv 1)) da_nil))))) (ds_one (ds_ret (de_bl (b := false)))) ds_nil))) (ds_one (ds_ret (de_bl (b := true)))))), rd_b_are_tables⟩
theorem w_b_fit (T : At K mg "b_fit" (top 28)) (hB : Bs mg) (c_b_stands : Ok P w K mg base "b_stands" (top 25) ["table", "letter"] 3 sp_b_stands)  : Ok P w K mg base "b_fit" (top 28) ["tables", "letters"] 4 sp_b_fit :=
  ok_of T sc_b_fit ln_b_fit fun cdv A out s H E hr hg => by
    have nd := (sc_b_fit).nd
    exact ⟨_, show DSs _ _ (R_b_fit sp_b_stands) from (ds_cons (ds_if (dt_w (dw_or (dt_not (dt_tru (dp_of (de_isi rfl hB.b_isinstance (de_var (pv 1)) (pe_tyN rfl hB.b_tuple))))) (dw_or1 (dt_cmp (does_ne hr.units) (de_call1 does_len rfl hB.b_len (by decide +kernel) (dp_var (pv 1))) (de_call1 does_len rfl hB.b_len (by decide +kernel) (dp_var (pv 0))) rfl)))) (ds_one (ds_ret (de_bl (b := false)))) ds_nil) (ds_cons (ds_for PassesOwn.never rfl (di_zip rfl hB.b_zip (da_cons (de_var (pv 0)) (da_cons (de_var (pv 1)) da_nil))) (dg_tup rfl (dgs_cons (dg_name nd rfl (by first | exact Or.inl rfl | exact Or.inr rfl)) (dgs_cons (dg_name nd rfl (by first | exact Or.inl rfl | exact Or.inr rfl)) dgs_nil))) (ds_one (ds_if (dt_not (dt_tru (dp_of (cl c_b_stands bn_b_stands hr hg (da_cons (de_var (pv 2)) (da_cons (de_var (pv 3)) da_nil)))))) (ds_one (ds_ret (de_bl (b := false)))) ds_nil))) (ds_one (ds_ret (de_bl (b := true)))))), rd_b_fit⟩
theorem w_b_tables_letters (T : At K mg "b_tables_letters" (top 29)) (c_a_want : Ok P w K mg base "a_want" (top 6) ["good", "word"] 1 sp_a_want) (c_b_are_tables : Ok P w K mg base "b_are_tables" (top 27) ["tables"] 5 sp_b_are_tables) (c_b_fit : Ok P w K mg base "b_fit" (top 28) ["tables", "letters"] 4 sp_b_fit)  : Ok P w K mg base "b_tables_letters" (top 29) ["tables", "letters"] 6 sp_b_tables_letters :=
  ok_of T sc_b_tables_letters ln_b_tables_letters fun cdv A out s H E hr hg => by
    have nd := (sc_b_tables_letters).nd
    exact ⟨_, show DSs _ _ (R_b_tables_letters sp_a_want sp_b_are_tables sp_b_fit) from (ds_cons (ds_expr (cl c_a_want bn_a_want hr hg (da_cons (cl c_b_are_tables bn_b_are_tables hr hg (da_cons (de_var (pv 0)) da_nil)) (da_cons (de_str (x := "tables")) da_nil)))) (ds_one (ds_expr (cl c_a_want bn_a_want hr hg (da_cons (cl c_b_fit bn_b_fit hr hg (da_cons (de_var (pv 0)) (da_cons (de_var (pv 1)) da_nil))) (da_cons (de_str (x := "letters")) da_nil)))))), rd_b_tables_letters⟩
theorem w_chance_of (T : At K mg "chance_of" (top 32)) (hB : Bs mg) (c_b_table_letter : Ok P w K mg base "b_table_letter" (top 26) ["table", "letter"] 5 sp_b_table_letter) (c_over : Ok P w K mg base "over" (top 20) ["one", "other"] 4 sp_over)  : Ok P w K mg base "chance_of" (top 32) ["table", "letter"] 6 sp_chance_of :=
  ok_of T sc_chance_of ln_chance_of fun cdv A out s H E hr hg => by
    have nd := (sc_chance_of).nd
    exact ⟨_, show DSs _ _ (R_chance_of sp_b_table_letter sp_over) from (ds_cons (ds_expr (cl c_b_table_letter bn_b_table_letter hr hg (da_cons (de_var (pv 0)) (da_cons (de_var (pv 1)) da_nil)))) (ds_one (ds_ret (cl c_over bn_over hr hg (da_cons (de_tup (da_cons (de_ixN (pv 0) (de_var (pv 1)) (fun _ _ => rfl)) (da_cons (de_int (i := 1)) da_nil))) (da_cons (de_tup (da_cons (de_call1 (does_sum rfl) rfl hB.b_sum (by decide +kernel) (dp_var (pv 0))) (da_cons (de_int (i := 1)) da_nil))) da_nil)))))), rd_chance_of⟩
theorem w_is_lean (T : At K mg "is_lean" (top 33)) (hB : Bs mg) (c_is_quotient : Ok P w K mg base "is_quotient" (top 11) ["thing"] 2 sp_is_quotient) (c_compare : Ok P w K mg base "compare" (top 21) ["one", "other"] 4 sp_compare)  : Ok P w K mg base "is_lean" (top 33) ["thing"] 5 sp_is_lean :=
  ok_of T sc_is_lean ln_is_lean fun cdv A out s H E hr hg => by
    have nd := (sc_is_lean).nd
    exact ⟨_, show DSs _ _ (R_is_lean sp_is_quotient sp_compare) from (ds_cons (ds_if (dt_w (dw_or (dt_not (dt_tru (dp_of (de_isi rfl hB.b_isinstance (de_var (pv 0)) (pe_tyN rfl hB.b_tuple))))) (dw_or1 (dt_cmp (does_ne hr.units) (de_call1 does_len rfl hB.b_len (by decide +kernel) (dp_var (pv 0))) (de_int (i := 3)) rfl)))) (ds_one (ds_ret (de_bl (b := false)))) ds_nil) (ds_cons (ds_for PassesOwn.never rfl (di_seq (de_var (pv 0))) (dg_name nd rfl (by first | exact Or.inl rfl | exact Or.inr rfl)) (ds_one (ds_if (dt_not (dt_tru (dp_of (cl c_is_quotient bn_is_quotient hr hg (da_cons (de_var (pv 1)) da_nil))))) (ds_one (ds_ret (de_bl (b := false)))) ds_nil))) (ds_cons (ds_asg (de_var (pv 0)) (dg_tup rfl (dgs_cons (dg_name nd rfl (by first | exact Or.inl rfl | exact Or.inr rfl)) (dgs_cons (dg_name nd rfl (by first | exact Or.inl rfl | exact Or.inr rfl)) (dgs_cons (dg_name nd rfl (by first | exact Or.inl rfl | exact Or.inr rfl)) dgs_nil))))) (ds_one (ds_ret (de_and (de_cmp does_gt (de_ixN (pv 2) (de_int (i := 0)) (fun _ _ => rfl)) (de_int (i := 0)) rfl) (de_one (de_cmp does_le (cl c_compare bn_compare hr hg (da_cons (de_var (pv 3)) (da_cons (de_var (pv 4)) da_nil))) (de_int (i := 0)) rfl)))))))), rd_is_lean⟩
theorem w_lean_after (T : At K mg "lean_after" (top 34)) (c_a_want : Ok P w K mg base "a_want" (top 6) ["good", "word"] 1 sp_a_want) (c_is_lean : Ok P w K mg base "is_lean" (top 33) ["thing"] 5 sp_is_lean) (c_plus : Ok P w K mg base "plus" (top 17) ["one", "other"] 4 sp_plus) (c_times : Ok P w K mg base "times" (top 19) ["one", "other"] 4 sp_times)  : Ok P w K mg base "lean_after" (top 34) ["one", "other"] 6 sp_lean_after :=
  ok_of T sc_lean_after ln_lean_after fun cdv A out s H E hr hg => by
    have nd := (sc_lean_after).nd
    exact ⟨_, show DSs _ _ (R_lean_after sp_a_want sp_is_lean sp_plus sp_times) from (ds_cons (ds_expr (cl c_a_want bn_a_want hr hg (da_cons (cl c_is_lean bn_is_lean hr hg (da_cons (de_var (pv 0)) da_nil)) (da_cons (de_str (x := "one")) da_nil)))) (ds_cons (ds_expr (cl c_a_want bn_a_want hr hg (da_cons (cl c_is_lean bn_is_lean hr hg (da_cons (de_var (pv 1)) da_nil)) (da_cons (de_str (x := "other")) da_nil)))) (ds_cons (ds_asg (de_var (pv 0)) (dg_tup rfl (dgs_cons (dg_name nd rfl (by first | exact Or.inl rfl | exact Or.inr rfl)) (dgs_cons (dg_name nd rfl (by first | exact Or.inl rfl | exact Or.inr rfl)) (dgs_cons (dg_name nd rfl (by first | exact Or.inl rfl | exact Or.inr rfl)) dgs_nil))))) (ds_cons (ds_asg (de_var (pv 1)) (dg_tup rfl (dgs_cons (dg_name nd rfl (by first | exact Or.inl rfl | exact Or.inr rfl)) (dgs_cons (dg_name nd rfl (by first | exact Or.inl rfl | exact Or.inr rfl)) (dgs_cons (dg_name nd rfl (by first | exact Or.inl rfl | exact Or.inr rfl)) dgs_nil))))) (ds_one (ds_ret (de_tup (da_cons (cl c_times bn_times hr hg (da_cons (de_var (pv 2)) (da_cons (de_var (pv 5)) da_nil))) (da_cons (cl c_plus bn_plus hr hg (da_cons (cl c_times bn_times hr hg (da_cons (de_var (pv 5)) (da_cons (de_var (pv 3)) da_nil))) (da_cons (de_var (pv 6)) da_nil))) (da_cons (cl c_plus bn_plus hr hg (da_cons (cl c_times bn_times hr hg (da_cons (de_var (pv 5)) (da_cons (de_var (pv 4)) da_nil))) (da_cons (de_var (pv 7)) da_nil))) da_nil)))))))))), rd_lean_after⟩
theorem w_lean_back (T : At K mg "lean_back" (top 35)) (c_a_want : Ok P w K mg base "a_want" (top 6) ["good", "word"] 1 sp_a_want) (c_is_lean : Ok P w K mg base "is_lean" (top 33) ["thing"] 5 sp_is_lean) (c_over : Ok P w K mg base "over" (top 20) ["one", "other"] 4 sp_over) (c_minus : Ok P w K mg base "minus" (top 18) ["one", "other"] 4 sp_minus) (g_NOUGHT : Gd K mg "NOUGHT" d_NOUGHT) : Ok P w K mg base "lean_back" (top 35) ["one"] 6 sp_lean_back :=
  ok_of T sc_lean_back ln_lean_back fun cdv A out s H E hr hg => by
    have nd := (sc_lean_back).nd
    exact ⟨_, show DSs _ _ (R_lean_back sp_a_want sp_is_lean sp_over sp_minus d_NOUGHT) from (ds_cons (ds_expr (cl c_a_want bn_a_want hr hg (da_cons (cl c_is_lean bn_is_lean hr hg (da_cons (de_var (pv 0)) da_nil)) (da_cons (de_str (x := "one")) da_nil)))) (ds_cons (ds_asg (de_var (pv 0)) (dg_tup rfl (dgs_cons (dg_name nd rfl (by first | exact Or.inl rfl | exact Or.inr rfl)) (dgs_cons (dg_name nd rfl (by first | exact Or.inl rfl | exact Or.inr rfl)) (dgs_cons (dg_name nd rfl (by first | exact Or.inl rfl | exact Or.inr rfl)) dgs_nil))))) (ds_one (ds_ret (de_tup (da_cons (cl c_over bn_over hr hg (da_cons (de_tup (da_cons (de_int (i := 1)) (da_cons (de_int (i := 1)) da_nil))) (da_cons (de_var (pv 1)) da_nil))) (da_cons (cl c_over bn_over hr hg (da_cons (cl c_minus bn_minus hr hg (da_cons (de_gd rfl g_NOUGHT) (da_cons (de_var (pv 3)) da_nil))) (da_cons (de_var (pv 1)) da_nil))) (da_cons (cl c_over bn_over hr hg (da_cons (cl c_minus bn_minus hr hg (da_cons (de_gd rfl g_NOUGHT) (da_cons (de_var (pv 2)) da_nil))) (da_cons (de_var (pv 1)) da_nil))) da_nil)))))))), rd_lean_back⟩
theorem w_lean_holds (T : At K mg "lean_holds" (top 36)) (c_a_want : Ok P w K mg base "a_want" (top 6) ["good", "word"] 1 sp_a_want) (c_is_lean : Ok P w K mg base "is_lean" (top 33) ["thing"] 5 sp_is_lean) (c_is_number : Ok P w K mg base "is_number" (top 9) ["thing"] 2 sp_is_number) (c_minus : Ok P w K mg base "minus" (top 18) ["one", "other"] 4 sp_minus) (c_times : Ok P w K mg base "times" (top 19) ["one", "other"] 4 sp_times) (c_compare : Ok P w K mg base "compare" (top 21) ["one", "other"] 4 sp_compare)  : Ok P w K mg base "lean_holds" (top 36) ["lean", "stack", "after"] 6 sp_lean_holds :=
  ok_of T sc_lean_holds ln_lean_holds fun cdv A out s H E hr hg => by
    have nd := (sc_lean_holds).nd
    exact ⟨_, show DSs _ _ (R_lean_holds sp_a_want sp_is_lean sp_is_number sp_minus sp_times sp_compare) from (ds_cons (ds_expr (cl c_a_want bn_a_want hr hg (da_cons (cl c_is_lean bn_is_lean hr hg (da_cons (de_var (pv 0)) da_nil)) (da_cons (de_str (x := "lean")) da_nil)))) (ds_cons (ds_expr (cl c_a_want bn_a_want hr hg (da_cons (cl c_is_number bn_is_number hr hg (da_cons (de_var (pv 1)) da_nil)) (da_cons (de_str (x := "stack")) da_nil)))) (ds_cons (ds_expr (cl c_a_want bn_a_want hr hg (da_cons (cl c_is_number bn_is_number hr hg (da_cons (de_var (pv 2)) da_nil)) (da_cons (de_str (x := "after")) da_nil)))) (ds_cons (ds_asg (de_var (pv 0)) (dg_tup rfl (dgs_cons (dg_name nd rfl (by first | exact Or.inl rfl | exact Or.inr rfl)) (dgs_cons (dg_name nd rfl (by first | exact Or.inl rfl | exact Or.inr rfl)) (dgs_cons (dg_name nd rfl (by first | exact Or.inl rfl | exact Or.inr rfl)) dgs_nil))))) (ds_cons (ds_set nd rfl (by first | exact Or.inl rfl | exact Or.inr rfl) (cl c_minus bn_minus hr hg (da_cons (de_tup (da_cons (de_var (pv 2)) (da_cons (de_int (i := 1)) da_nil))) (da_cons (cl c_times bn_times hr hg (da_cons (de_var (pv 3)) (da_cons (de_tup (da_cons (de_var (pv 1)) (da_cons (de_int (i := 1)) da_nil))) da_nil))) da_nil)))) (ds_one (ds_ret (de_and (de_cmp does_le (cl c_compare bn_compare hr hg (da_cons (de_var (pv 4)) (da_cons (de_var (pv 6)) da_nil))) (de_int (i := 0)) rfl) (de_one (de_cmp does_le (cl c_compare bn_compare hr hg (da_cons (de_var (pv 6)) (da_cons (de_var (pv 5)) da_nil))) (de_int (i := 0)) rfl)))))))))), rd_lean_holds⟩
theorem w_b_lean_by (T : At K mg "b_lean_by" (top 37)) (hB : Bs mg) (c_over : Ok P w K mg base "over" (top 20) ["one", "other"] 4 sp_over) (c_minus : Ok P w K mg base "minus" (top 18) ["one", "other"] 4 sp_minus)  : Ok P w K mg base "b_lean_by" (top 37) ["table", "letter"] 5 sp_b_lean_by :=
  ok_of T sc_b_lean_by ln_b_lean_by fun cdv A out s H E hr hg => by
    have nd := (sc_b_lean_by).nd
    exact ⟨_, show DSs _ _ (R_b_lean_by sp_over sp_minus) from (ds_cons (ds_par3 rfl nd rfl rfl rfl (by decide) (by decide) (by decide) rfl rfl rfl (da_cons (de_call1 (does_sum rfl) rfl hB.b_sum (by decide +kernel) (dp_var (pv 0))) (da_cons (de_ixN (pv 0) (de_var (pv 1)) (fun _ _ => rfl)) (da_cons (de_call1 (does_sum rfl) rfl hB.b_sum (by decide +kernel) (dp_of (de_slN (pv 0) do_none (do_some (de_var (pv 1)))))) da_nil))) rfl) (ds_cons (ds_set nd rfl (by first | exact Or.inl rfl | exact Or.inr rfl) (de_tup (da_cons (de_var (pv 3)) (da_cons (de_int (i := 1)) da_nil)))) (ds_cons (ds_set nd rfl (by first | exact Or.inl rfl | exact Or.inr rfl) (cl c_over bn_over hr hg (da_cons (de_tup (da_cons (de_bin does_mul (de_bin does_sub (de_var (pv 2)) (de_var (pv 3))) (de_bin does_sub (de_var (pv 3)) (de_int (i := 1)))) (da_cons (de_int (i := 1)) da_nil))) (da_cons (de_var (pv 5)) da_nil)))) (ds_one (ds_ret (de_tup (da_cons (cl c_over bn_over hr hg (da_cons (de_tup (da_cons (de_var (pv 2)) (da_cons (de_int (i := 1)) da_nil))) (da_cons (de_var (pv 5)) da_nil))) (da_cons (cl c_minus bn_minus hr hg (da_cons (de_tup (da_cons (de_var (pv 4)) (da_cons (de_int (i := 1)) da_nil))) (da_cons (de_var (pv 6)) da_nil))) (da_cons (de_tup (da_cons (de_var (pv 4)) (da_cons (de_int (i := 1)) da_nil))) da_nil))))))))), rd_b_lean_by⟩
theorem w_push_by (T : At K mg "push_by" (top 39)) (hB : Bs mg) (c_a_want : Ok P w K mg base "a_want" (top 6) ["good", "word"] 1 sp_a_want) (c_is_number : Ok P w K mg base "is_number" (top 9) ["thing"] 2 sp_is_number) (c_b_table_letter : Ok P w K mg base "b_table_letter" (top 26) ["table", "letter"] 5 sp_b_table_letter)  : Ok P w K mg base "push_by" (top 39) ["stack", "table", "letter"] 6 sp_push_by :=
  ok_of T sc_push_by ln_push_by fun cdv A out s H E hr hg => by
    have nd := (sc_push_by).nd
    exact ⟨_, show DSs _ _ (R_push_by sp_a_want sp_is_number sp_b_table_letter) from (ds_cons (ds_expr (cl c_a_want bn_a_want hr hg (da_cons (cl c_is_number bn_is_number hr hg (da_cons (de_var (pv 0)) da_nil)) (da_cons (de_str (x := "stack")) da_nil)))) (ds_cons (ds_expr (cl c_b_table_letter bn_b_table_letter hr hg (da_cons (de_var (pv 1)) (da_cons (de_var (pv 2)) da_nil)))) (ds_cons (ds_set nd rfl (by first | exact Or.inl rfl | exact Or.inr rfl) (de_ixN (pv 1) (de_var (pv 2)) (fun _ _ => rfl))) (ds_one (ds_ret (de_bin does_add (de_bin does_add (de_bin does_mul (de_call1 (does_sum rfl) rfl hB.b_sum (by decide +kernel) (dp_var (pv 1))) (de_bin does_div (de_var (pv 0)) (de_var (pv 3)))) (de_call1 (does_sum rfl) rfl hB.b_sum (by decide +kernel) (dp_of (de_slN (pv 1) do_none (do_some (de_var (pv 2))))))) (de_bin does_mod (de_var (pv 0)) (de_var (pv 3))))))))), rd_push_by⟩
theorem w_pop_by (T : At K mg "pop_by" (top 40)) (hB : Bs mg) (c_a_want : Ok P w K mg base "a_want" (top 6) ["good", "word"] 1 sp_a_want) (c_is_number : Ok P w K mg base "is_number" (top 9) ["thing"] 2 sp_is_number) (c_is_table : Ok P w K mg base "is_table" (top 24) ["thing"] 4 sp_is_table)  : Ok P w K mg base "pop_by" (top 40) ["stack", "table"] 5 sp_pop_by :=
  ok_of T sc_pop_by ln_pop_by fun cdv A out s H E hr hg => by
    have nd := (sc_pop_by).nd
    exact ⟨_, show DSs _ _ (R_pop_by sp_a_want sp_is_number sp_is_table) from (ds_cons (ds_expr (cl c_a_want bn_a_want hr hg (da_cons (cl c_is_number bn_is_number hr hg (da_cons (de_var (pv 0)) da_nil)) (da_cons (de_str (x := "stack")) da_nil)))) (ds_cons (ds_expr (cl c_a_want bn_a_want hr hg (da_cons (cl c_is_table bn_is_table hr hg (da_cons (de_var (pv 1)) da_nil)) (da_cons (de_str (x := "table")) da_nil)))) (ds_cons (ds_asg (de_call2 does_divmod rfl hB.b_divmod (by decide +kernel) (de_var (pv 0)) (de_call1 (does_sum rfl) rfl hB.b_sum (by decide +kernel) (dp_var (pv 1)))) (dg_tup rfl (dgs_cons (dg_name nd rfl (by first | exact Or.inl rfl | exact Or.inr rfl)) (dgs_cons (dg_name nd rfl (by first | exact Or.inl rfl | exact Or.inr rfl)) dgs_nil)))) (ds_cons (ds_set nd rfl (by first | exact Or.inl rfl | exact Or.inr rfl) (de_int (i := 0))) (ds_cons (ds_while PassesOwn.never (dt_cmp does_ge (de_var (pv 3)) (de_ixN (pv 1) (de_var (pv 4)) (fun _ _ => rfl)) rfl) (ds_cons (ds_aug nd rfl (by first | exact Or.inl rfl | exact Or.inr rfl) ip_sub (de_ixN (pv 1) (de_var (pv 4)) (fun _ _ => rfl))) (ds_one (ds_aug nd rfl (by first | exact Or.inl rfl | exact Or.inr rfl) ip_add (de_int (i := 1)))))) (ds_one (ds_ret (de_tup (da_cons (de_var (pv 4)) (da_cons (de_bin does_add (de_bin does_mul (de_ixN (pv 1) (de_var (pv 4)) (fun _ _ => rfl)) (de_var (pv 2))) (de_var (pv 3))) da_nil)))))))))), rd_pop_by⟩
theorem w_push_letters (T : At K mg "push_letters" (top 42)) (hB : Bs mg) (c_a_want : Ok P w K mg base "a_want" (top 6) ["good", "word"] 1 sp_a_want) (c_is_number : Ok P w K mg base "is_number" (top 9) ["thing"] 2 sp_is_number) (c_b_tables_letters : Ok P w K mg base "b_tables_letters" (top 29) ["tables", "letters"] 6 sp_b_tables_letters) (c_push_by : Ok P w K mg base "push_by" (top 39) ["stack", "table", "letter"] 6 sp_push_by)  : Ok P w K mg base "push_letters" (top 42) ["stack", "tables", "letters"] 7 sp_push_letters :=
  ok_of T sc_push_letters ln_push_letters fun cdv A out s H E hr hg => by
    have nd := (sc_push_letters).nd
    exact ⟨_, show DSs _ _ (R_push_letters sp_a_want sp_is_number sp_b_tables_letters sp_push_by) from (ds_cons (ds_expr (cl c_a_want bn_a_want hr hg (da_cons (cl c_is_number bn_is_number hr hg (da_cons (de_var (pv 0)) da_nil)) (da_cons (de_str (x := "stack")) da_nil)))) (ds_cons (ds_expr (cl c_b_tables_letters bn_b_tables_letters hr hg (da_cons (de_var (pv 1)) (da_cons (de_var (pv 2)) da_nil)))) (ds_cons (ds_for PassesOwn.never rfl (di_revRng rfl hB.b_reversed rfl hB.b_range (de_call1 does_len rfl hB.b_len (by decide +kernel) (dp_var (pv 1)))) (dg_name nd rfl (by first | exact Or.inl rfl | exact Or.inr rfl)) (ds_one (ds_set nd rfl (by first | exact Or.inl rfl | exact Or.inr rfl) (cl c_push_by bn_push_by hr hg (da_cons (de_var (pv 0)) (da_cons (de_ixN (pv 1) (de_var (pv 3)) (fun _ _ => rfl)) (da_cons (de_ixN (pv 2) (de_var (pv 3)) (fun _ _ => rfl)) da_nil))))))) (ds_one (ds_ret (de_var (pv 0))))))), rd_push_letters⟩
theorem w_pop_letters (T : At K mg "pop_letters" (top 43)) (hB : Bs mg) (c_a_want : Ok P w K mg base "a_want" (top 6) ["good", "word"] 1 sp_a_want) (c_is_number : Ok P w K mg base "is_number" (top 9) ["thing"] 2 sp_is_number) (c_b_are_tables : Ok P w K mg base "b_are_tables" (top 27) ["tables"] 5 sp_b_are_tables) (c_pop_by : Ok P w K mg base "pop_by" (top 40) ["stack", "table"] 5 sp_pop_by)  : Ok P w K mg base "pop_letters" (top 43) ["stack", "tables"] 6 sp_pop_letters :=
  ok_of T sc_pop_letters ln_pop_letters fun cdv A out s H E hr hg => by
    have nd := (sc_pop_letters).nd
    exact ⟨_, show DSs _ _ (R_pop_letters sp_a_want sp_is_number sp_b_are_tables sp_pop_by) from (ds_cons (ds_expr (cl c_a_want bn_a_want hr hg (da_cons (cl c_is_number bn_is_number hr hg (da_cons (de_var (pv 0)) da_nil)) (da_cons (de_str (x := "stack")) da_nil)))) (ds_cons (ds_expr (cl c_a_want bn_a_want hr hg (da_cons (cl c_b_are_tables bn_b_are_tables hr hg (da_cons (de_var (pv 1)) da_nil)) (da_cons (de_str (x := "tables")) da_nil)))) (ds_cons (ds_setF nd rfl (by first | exact Or.inl rfl | exact Or.inr rfl) (df_lst da_nil)) (ds_cons (ds_for PassesOwn.never rfl (di_seq (de_var (pv 1))) (dg_name nd rfl (by first | exact Or.inl rfl | exact Or.inr rfl)) (ds_cons (ds_asg (cl c_pop_by bn_pop_by hr hg (da_cons (de_var (pv 0)) (da_cons (de_var (pv 3)) da_nil))) (dg_tup rfl (dgs_cons (dg_name nd rfl (by first | exact Or.inl rfl | exact Or.inr rfl)) (dgs_cons (dg_name nd rfl (by first | exact Or.inl rfl | exact Or.inr rfl)) dgs_nil)))) (ds_one (ds_append (pv 2) (de_var (pv 4)))))) (ds_one (ds_ret (de_tup (da_cons (de_callT1 does_tuple rfl hB.b_tuple (by decide +kernel) (dp_var (pv 2))) (da_cons (de_var (pv 0)) da_nil))))))))), rd_pop_letters⟩
theorem w_lean_of_row (T : At K mg "lean_of_row" (top 44)) (hB : Bs mg) (c_b_tables_letters : Ok P w K mg base "b_tables_letters" (top 29) ["tables", "letters"] 6 sp_b_tables_letters) (c_lean_after : Ok P w K mg base "lean_after" (top 34) ["one", "other"] 6 sp_lean_after) (c_b_lean_by : Ok P w K mg base "b_lean_by" (top 37) ["table", "letter"] 5 sp_b_lean_by)  : Ok P w K mg base "lean_of_row" (top 44) ["tables", "letters"] 7 sp_lean_of_row :=
  ok_of T sc_lean_of_row ln_lean_of_row fun cdv A out s H E hr hg => by
    have nd := (sc_lean_of_row).nd
    exact ⟨_, show DSs _ _ (R_lean_of_row sp_b_tables_letters sp_lean_after sp_b_lean_by) from (ds_cons (ds_expr (cl c_b_tables_letters bn_b_tables_letters hr hg (da_cons (de_var (pv 0)) (da_cons (de_var (pv 1)) da_nil)))) (ds_cons (ds_set nd rfl (by first | exact Or.inl rfl | exact Or.inr rfl) (de_tup (da_cons (de_tup (da_cons (de_int (i := 1)) (da_cons (de_int (i := 1)) da_nil))) (da_cons (de_tup (da_cons (de_int (i := 0)) (da_cons (de_int (i := 1)) da_nil))) (da_cons (de_tup (da_cons (de_int (i := 0)) (da_cons (de_int (i := 1)) da_nil))) da_nil))))) (ds_cons (ds_for PassesOwn.never rfl (di_revRng rfl hB.b_reversed rfl hB.b_range (de_call1 does_len rfl hB.b_len (by decide +kernel) (dp_var (pv 0)))) (dg_name nd rfl (by first | exact Or.inl rfl | exact Or.inr rfl)) (ds_one (ds_set nd rfl (by first | exact Or.inl rfl | exact Or.inr rfl) (cl c_lean_after bn_lean_after hr hg (da_cons (de_var (pv 2)) (da_cons (cl c_b_lean_by bn_b_lean_by hr hg (da_cons (de_ixN (pv 0) (de_var (pv 3)) (fun _ _ => rfl)) (da_cons (de_ixN (pv 1) (de_var (pv 3)) (fun _ _ => rfl)) da_nil))) da_nil)))))) (ds_one (ds_ret (de_var (pv 2))))))), rd_lean_of_row⟩
theorem w_row_of (T : At K mg "row_of" (top 46)) (hB : Bs mg) (c_a_want : Ok P w K mg base "a_want" (top 6) ["good", "word"] 1 sp_a_want) (c_is_base : Ok P w K mg base "is_base" (top 10) ["thing"] 2 sp_is_base) (c_is_number : Ok P w K mg base "is_number" (top 9) ["thing"] 2 sp_is_number)  : Ok P w K mg base "row_of" (top 46) ["base", "stack"] 3 sp_row_of :=
  ok_of T sc_row_of ln_row_of fun cdv A out s H E hr hg => by
    have nd := (sc_row_of).nd
    exact ⟨_, show DSs _ _ (R_row_of sp_a_want sp_is_base sp_is_number) from (ds_cons (ds_expr (cl c_a_want bn_a_want hr hg (da_cons (cl c_is_base bn_is_base hr hg (da_cons (de_var (pv 0)) da_nil)) (da_cons (de_str (x := "base")) da_nil)))) (ds_cons (ds_expr (cl c_a_want bn_a_want hr hg (da_cons (cl c_is_number bn_is_number hr hg (da_cons (de_var (pv 1)) da_nil)) (da_cons (de_str (x := "stack")) da_nil)))) (ds_cons (ds_setF nd rfl (by first | exact Or.inl rfl | exact Or.inr rfl) (df_lst da_nil)) (ds_cons (ds_set nd rfl (by first | exact Or.inl rfl | exact Or.inr rfl) (de_var (pv 1))) (ds_cons (ds_while PassesOwn.never (dt_cmp does_gt (de_var (pv 3)) (de_int (i := 0)) rfl) (ds_cons (ds_append (pv 2) (de_bin does_mod (de_bin does_sub (de_var (pv 3)) (de_int (i := 1))) (de_var (pv 0)))) (ds_one (ds_set nd rfl (by first | exact Or.inl rfl | exact Or.inr rfl) (de_bin does_div (de_bin does_sub (de_var (pv 3)) (de_int (i := 1))) (de_var (pv 0))))))) (ds_one (ds_ret (de_callT1 does_tuple rfl hB.b_tuple (by decide +kernel) (dp_of (de_df (df_rev (dp_var (pv 2))))))))))))), rd_row_of⟩
theorem w_stack_of (T : At K mg "stack_of" (top 47)) (c_a_want : Ok P w K mg base "a_want" (top 6) ["good", "word"] 1 sp_a_want) (c_is_base : Ok P w K mg base "is_base" (top 10) ["thing"] 2 sp_is_base) (c_is_digits : Ok P w K mg base "is_digits" (top 13) ["base", "thing"] 4 sp_is_digits) (c_added : Ok P w K mg base "added" (top 48) ["base", "stack", "digits"] 5 sp_added)  : Ok P w K mg base "stack_of" (top 47) ["base", "digits"] 6 sp_stack_of :=
  ok_of T sc_stack_of ln_stack_of fun cdv A out s H E hr hg => by
    have nd := (sc_stack_of).nd
    exact ⟨_, show DSs _ _ (R_stack_of sp_a_want sp_is_base sp_is_digits sp_added) from (ds_cons (ds_expr (cl c_a_want bn_a_want hr hg (da_cons (cl c_is_base bn_is_base hr hg (da_cons (de_var (pv 0)) da_nil)) (da_cons (de_str (x := "base")) da_nil)))) (ds_cons (ds_expr (cl c_a_want bn_a_want hr hg (da_cons (cl c_is_digits bn_is_digits hr hg (da_cons (de_var (pv 0)) (da_cons (de_var (pv 1)) da_nil))) (da_cons (de_str (x := "digits")) da_nil)))) (ds_one (ds_ret (cl c_added bn_added hr hg (da_cons (de_var (pv 0)) (da_cons (de_int (i := 0)) (da_cons (de_var (pv 1)) da_nil)))))))), rd_stack_of⟩
theorem w_added (T : At K mg "added" (top 48)) (c_a_want : Ok P w K mg base "a_want" (top 6) ["good", "word"] 1 sp_a_want) (c_is_base : Ok P w K mg base "is_base" (top 10) ["thing"] 2 sp_is_base) (c_is_number : Ok P w K mg base "is_number" (top 9) ["thing"] 2 sp_is_number) (c_is_digits : Ok P w K mg base "is_digits" (top 13) ["base", "thing"] 4 sp_is_digits)  : Ok P w K mg base "added" (top 48) ["base", "stack", "digits"] 5 sp_added :=
  ok_of T sc_added ln_added fun cdv A out s H E hr hg => by
    have nd := (sc_added).nd
    exact ⟨_, show DSs _ _ (R_added sp_a_want sp_is_base sp_is_number sp_is_digits) from (ds_cons (ds_expr (cl c_a_want bn_a_want hr hg (da_cons (cl c_is_base bn_is_base hr hg (da_cons (de_var (pv 0)) da_nil)) (da_cons (de_str (x := "base")) da_nil)))) (ds_cons (ds_expr (cl c_a_want bn_a_want hr hg (da_cons (cl c_is_number bn_is_number hr hg (da_cons (de_var (pv 1)) da_nil)) (da_cons (de_str (x := "stack")) da_nil)))) (ds_cons (ds_expr (cl c_a_want bn_a_want hr hg (da_cons (cl c_is_digits bn_is_digits hr hg (da_cons (de_var (pv 0)) (da_cons (de_var (pv 2)) da_nil))) (da_cons (de_str (x := "digits")) da_nil)))) (ds_cons (ds_set nd rfl (by first | exact Or.inl rfl | exact Or.inr rfl) (de_var (pv 1))) (ds_cons (ds_for PassesOwn.never rfl (di_seq (de_var (pv 2))) (dg_name nd rfl (by first | exact Or.inl rfl | exact Or.inr rfl)) (ds_one (ds_set nd rfl (by first | exact Or.inl rfl | exact Or.inr rfl) (de_bin does_add (de_bin does_add (de_bin does_mul (de_var (pv 3)) (de_var (pv 0))) (de_var (pv 4))) (de_int (i := 1)))))) (ds_one (ds_ret (de_var (pv 3))))))))), rd_added⟩
theorem w_taken (T : At K mg "taken" (top 49)) (hB : Bs mg) (c_a_want : Ok P w K mg base "a_want" (top 6) ["good", "word"] 1 sp_a_want) (c_is_base : Ok P w K mg base "is_base" (top 10) ["thing"] 2 sp_is_base) (c_is_number : Ok P w K mg base "is_number" (top 9) ["thing"] 2 sp_is_number)  : Ok P w K mg base "taken" (top 49) ["base", "stack", "many"] 3 sp_taken :=
  ok_of T sc_taken ln_taken fun cdv A out s H E hr hg => by
    have nd := (sc_taken).nd
    exact ⟨_, show DSs _ _ (R_taken sp_a_want sp_is_base sp_is_number) from (ds_cons (ds_expr (cl c_a_want bn_a_want hr hg (da_cons (cl c_is_base bn_is_base hr hg (da_cons (de_var (pv 0)) da_nil)) (da_cons (de_str (x := "base")) da_nil)))) (ds_cons (ds_expr (cl c_a_want bn_a_want hr hg (da_cons (cl c_is_number bn_is_number hr hg (da_cons (de_var (pv 1)) da_nil)) (da_cons (de_str (x := "stack")) da_nil)))) (ds_cons (ds_expr (cl c_a_want bn_a_want hr hg (da_cons (cl c_is_number bn_is_number hr hg (da_cons (de_var (pv 2)) da_nil)) (da_cons (de_str (x := "many")) da_nil)))) (ds_cons (ds_setF nd rfl (by first | exact Or.inl rfl | exact Or.inr rfl) (df_lst da_nil)) (ds_cons (ds_set nd rfl (by first | exact Or.inl rfl | exact Or.inr rfl) (de_var (pv 1))) (ds_cons (ds_while PassesOwn.never (dt_cmp (does_lt hr.units0) (de_call1 does_len rfl hB.b_len (by decide +kernel) (dp_var (pv 3))) (de_var (pv 2)) rfl) (ds_cons (ds_if (dt_cmp (does_eq hr.units) (de_var (pv 4)) (de_int (i := 0)) rfl) (ds_one ds_never) ds_nil) (ds_cons (ds_append (pv 3) (de_bin does_mod (de_bin does_sub (de_var (pv 4)) (de_int (i := 1))) (de_var (pv 0)))) (ds_one (ds_set nd rfl (by first | exact Or.inl rfl | exact Or.inr rfl) (de_bin does_div (de_bin does_sub (de_var (pv 4)) (de_int (i := 1))) (de_var (pv 0)))))))) (ds_one (ds_ret (de_tup (da_cons (de_callT1 does_tuple rfl hB.b_tuple (by decide +kernel) (dp_of (de_df (df_rev (dp_var (pv 3)))))) (da_cons (de_var (pv 4)) da_nil))))))))))), rd_taken⟩
theorem w_places_of (T : At K mg "places_of" (top 51)) (c_a_want : Ok P w K mg base "a_want" (top 6) ["good", "word"] 1 sp_a_want) (c_is_base : Ok P w K mg base "is_base" (top 10) ["thing"] 2 sp_is_base) (c_is_number : Ok P w K mg base "is_number" (top 9) ["thing"] 2 sp_is_number)  : Ok P w K mg base "places_of" (top 51) ["base", "number"] 3 sp_places_of :=
  ok_of T sc_places_of ln_places_of fun cdv A out s H E hr hg => by
    have nd := (sc_places_of).nd
    exact ⟨_, show DSs _ _ (R_places_of sp_a_want sp_is_base sp_is_number) from (ds_cons (ds_expr (cl c_a_want bn_a_want hr hg (da_cons (cl c_is_base bn_is_base hr hg (da_cons (de_var (pv 0)) da_nil)) (da_cons (de_str (x := "base")) da_nil)))) (ds_cons (ds_expr (cl c_a_want bn_a_want hr hg (da_cons (cl c_is_number bn_is_number hr hg (da_cons (de_var (pv 1)) da_nil)) (da_cons (de_str (x := "number")) da_nil)))) (ds_cons (ds_set nd rfl (by first | exact Or.inl rfl | exact Or.inr rfl) (de_int (i := 0))) (ds_cons (ds_set nd rfl (by first | exact Or.inl rfl | exact Or.inr rfl) (de_var (pv 1))) (ds_cons (ds_while PassesOwn.never (dt_cmp does_gt (de_var (pv 3)) (de_int (i := 0)) rfl) (ds_cons (ds_set nd rfl (by first | exact Or.inl rfl | exact Or.inr rfl) (de_bin does_div (de_var (pv 3)) (de_var (pv 0)))) (ds_one (ds_aug nd rfl (by first | exact Or.inl rfl | exact Or.inr rfl) ip_add (de_int (i := 1)))))) (ds_one (ds_ret (de_var (pv 2))))))))), rd_places_of⟩
theorem w_reach_of (T : At K mg "reach_of" (top 52)) (c_a_want : Ok P w K mg base "a_want" (top 6) ["good", "word"] 1 sp_a_want) (c_is_base : Ok P w K mg base "is_base" (top 10) ["thing"] 2 sp_is_base) (c_is_quotient : Ok P w K mg base "is_quotient" (top 11) ["thing"] 2 sp_is_quotient)  : Ok P w K mg base "reach_of" (top 52) ["base", "one"] 3 sp_reach_of :=
  ok_of T sc_reach_of ln_reach_of fun cdv A out s H E hr hg => by
    have nd := (sc_reach_of).nd
    exact ⟨_, show DSs _ _ (R_reach_of sp_a_want sp_is_base sp_is_quotient) from (ds_cons (ds_expr (cl c_a_want bn_a_want hr hg (da_cons (cl c_is_base bn_is_base hr hg (da_cons (de_var (pv 0)) da_nil)) (da_cons (de_str (x := "base")) da_nil)))) (ds_cons (ds_expr (cl c_a_want bn_a_want hr hg (da_cons (de_and (cl c_is_quotient bn_is_quotient hr hg (da_cons (de_var (pv 1)) da_nil)) (de_one (de_cmp does_gt (de_ixN (pv 1) (de_int (i := 0)) (fun _ _ => rfl)) (de_int (i := 0)) rfl))) (da_cons (de_str (x := "one")) da_nil)))) (ds_cons (ds_set nd rfl (by first | exact Or.inl rfl | exact Or.inr rfl) (de_int (i := 0))) (ds_cons (ds_set nd rfl (by first | exact Or.inl rfl | exact Or.inr rfl) (de_ixN (pv 1) (de_int (i := 1)) (fun _ _ => rfl))) (ds_cons (ds_while PassesOwn.never (dt_cmp (does_lt hr.units0) (de_var (pv 3)) (de_ixN (pv 1) (de_int (i := 0)) (fun _ _ => rfl)) rfl) (ds_cons (ds_set nd rfl (by first | exact Or.inl rfl | exact Or.inr rfl) (de_bin does_mul (de_var (pv 3)) (de_var (pv 0)))) (ds_one (ds_aug nd rfl (by first | exact Or.inl rfl | exact Or.inr rfl) ip_add (de_int (i := 1)))))) (ds_one (ds_ret (de_var (pv 2))))))))), rd_reach_of⟩
theorem w_Ulaw_well (T : At K mg "_law_well" (top 54)) (hB : Bs mg)   : Ok P w K mg base "_law_well" (top 54) ["_law_script"] 1 sp_Ulaw_well :=
  ok_of T sc_Ulaw_well ln_Ulaw_well fun cdv A out s H E hr hg => by
    have nd := (sc_Ulaw_well).nd
    exact ⟨_, show DSs _ _ (R_Ulaw_well ) from (ds_one (ds_retM (df_lst (da_cons (de_df (df_lcV rfl rfl nd (di_seq (de_var (pv 0))) (blkOk_by (own := [("_law_cell", 1)]) (N := ["_law_script", "_law_cell"]) (sc := defScope (top 54)) (by decide +kernel)) (fun _ _ _ _ _ => (dg_name nd rfl (by first | exact Or.inl rfl | exact Or.inr rfl))) (fun _ _ _ _ _ => dts_nil) (fun _ _ _ _ _ => (de_bin does_add (de_bin does_mul (de_int (i := 2)) (de_call1 does_abs rfl hB.b_abs (by decide +kernel) (dp_var (pv 1)))) (de_callT1 does_int rfl hB.b_int (by decide +kernel) (dp_of (de_cmp (does_lt hr.units0) (de_var (pv 1)) (de_int (i := 0)) rfl))))) (by decide))) (da_cons (de_int (i := 0)) (da_cons (de_int (i := 0)) (da_cons (de_int (i := 0)) da_nil))))))), rd_Ulaw_well⟩
theorem w_Ulaw_dip (T : At K mg "_law_dip" (top 55)) (hB : Bs mg)   : Ok P w K mg base "_law_dip" (top 55) ["_law_well_here", "_law_many"] 1 sp_Ulaw_dip :=
  ok_of T sc_Ulaw_dip ln_Ulaw_dip fun cdv A out s H E hr hg => by
    have nd := (sc_Ulaw_dip).nd
    exact ⟨_, show DSs _ _ (R_Ulaw_dip ) from (ds_cons (ds_setIx (pv 0) (de_bin does_add (de_ixN (pv 0) (de_int (i := 3)) (fun _ _ => rfl)) (de_int (i := 1))) (de_int (i := 3))) (ds_cons (ds_if (dt_cmp does_gt (de_ixN (pv 0) (de_int (i := 2)) (fun _ _ => rfl)) (de_int (i := 0)) rfl) (ds_cons (ds_set nd rfl (by first | exact Or.inl rfl | exact Or.inr rfl) (de_bin does_mod (de_callT1 does_int rfl hB.b_int (by decide +kernel) (dp_of (de_ixN (pv 0) (de_int (i := 2)) (fun _ _ => rfl)))) (de_var (pv 1)))) (ds_cons (ds_setIx (pv 0) (de_bin does_div (de_ixN (pv 0) (de_int (i := 2)) (fun _ _ => rfl)) (de_var (pv 1))) (de_int (i := 2))) (ds_one (ds_ret (de_var (pv 2)))))) ds_nil) (ds_cons (ds_par rfl nd rfl rfl (by decide) rfl rfl (da_cons (de_ixN (pv 0) (de_int (i := 0)) (fun _ _ => rfl)) (da_cons (de_ixN (pv 0) (de_int (i := 1)) (fun _ _ => rfl)) da_nil)) rfl) (ds_cons (ds_setIx (pv 0) (de_bin does_add (de_var (pv 4)) (de_int (i := 1))) (de_int (i := 1))) (ds_cons (ds_set nd rfl (by first | exact Or.inl rfl | exact Or.inr rfl) (de_if (dt_cmp (does_ne hr.units) (de_var (pv 3)) (de_df (df_lst da_nil)) rfl) (de_ixN (pv 3) (de_bin does_mod (de_callT1 does_int rfl hB.b_int (by decide +kernel) (dp_var (pv 4))) (de_call1 does_len rfl hB.b_len (by decide +kernel) (dp_var (pv 3)))) (fun _ _ => rfl)) (de_int (i := 48317)))) (ds_cons (ds_if (dt_w (dw_and (dt_cmp does_ge (de_var (pv 5)) (de_bin does_pow (de_int (i := 10)) (de_int (i := 17))) rfl) (dw_and1 (dt_cmp (does_lt hr.units0) (de_var (pv 4)) (de_call1 does_len rfl hB.b_len (by decide +kernel) (dp_var (pv 3))) rfl)))) (ds_cons (ds_setIx (pv 0) (de_bin does_div (de_var (pv 5)) (de_var (pv 1))) (de_int (i := 2))) (ds_one (ds_ret (de_bin does_mod (de_callT1 does_int rfl hB.b_int (by decide +kernel) (dp_var (pv 5))) (de_var (pv 1)))))) ds_nil) (ds_cons (ds_set nd rfl (by first | exact Or.inl rfl | exact Or.inr rfl) (de_bin does_mod (de_callT1 does_int rfl hB.b_int (by decide +kernel) (dp_of (de_bin does_add (de_bin does_add (de_bin does_mod (de_callT1 does_int rfl hB.b_int (by decide +kernel) (dp_var (pv 5))) (de_int (i := 1000000787))) (de_bin does_mul (de_int (i := 70223)) (de_ixN (pv 0) (de_int (i := 3)) (fun _ _ => rfl)))) (de_int (i := 48317))))) (de_int (i := 2147483171)))) (ds_cons (ds_set nd rfl (by first | exact Or.inl rfl | exact Or.inr rfl) (de_bin does_mod (de_callT1 does_int rfl hB.b_int (by decide +kernel) (dp_of (de_bin does_add (de_bin does_add (de_bin does_mul (de_var (pv 6)) (de_var (pv 6))) (de_bin does_mul (de_int (i := 5100341)) (de_ixN (pv 0) (de_int (i := 3)) (fun _ _ => rfl)))) (de_int (i := 48317))))) (de_int (i := 2147483077)))) (ds_one (ds_ret (de_bin does_mod (de_callT1 does_int rfl hB.b_int (by decide +kernel) (dp_of (de_bin does_div (de_bin does_mod (de_callT1 does_int rfl hB.b_int (by decide +kernel) (dp_of (de_bin does_add (de_bin does_mul (de_var (pv 6)) (de_var (pv 6))) (de_bin does_mul (de_int (i := 977)) (de_var (pv 6)))))) (de_int (i := 2147482951))) (de_int (i := 64))))) (de_var (pv 1))))))))))))), rd_Ulaw_dip⟩
theorem w_Ulaw_pick (T : At K mg "_law_pick" (top 56)) (hB : Bs mg) (c_Ulaw_dip : Ok P w K mg base "_law_dip" (top 55) ["_law_well_here", "_law_many"] 1 sp_Ulaw_dip)  : Ok P w K mg base "_law_pick" (top 56) ["_law_well_here", "_law_some"] 2 sp_Ulaw_pick :=
  ok_of T sc_Ulaw_pick ln_Ulaw_pick fun cdv A out s H E hr hg => by
    have nd := (sc_Ulaw_pick).nd
    exact ⟨_, show DSs _ _ (R_Ulaw_pick sp_Ulaw_dip) from (ds_one (ds_ret (de_ixN (pv 1) (cl c_Ulaw_dip bn_Ulaw_dip hr hg (da_cons (de_var (pv 0)) (da_cons (de_call1 does_len rfl hB.b_len (by decide +kernel) (dp_var (pv 1))) da_nil))) (fun _ _ => rfl)))), rd_Ulaw_pick⟩
theorem w_Ulaw_great (T : At K mg "_law_great" (top 57)) (hB : Bs mg) (c_Ulaw_dip : Ok P w K mg base "_law_dip" (top 55) ["_law_well_here", "_law_many"] 1 sp_Ulaw_dip)  : Ok P w K mg base "_law_great" (top 57) ["_law_well_here", "_law_many"] 2 sp_Ulaw_great :=
  ok_of T sc_Ulaw_great ln_Ulaw_great fun cdv A out s H E hr hg => by
    have nd := (sc_Ulaw_great).nd
    exact ⟨_, show DSs _ _ (R_Ulaw_great sp_Ulaw_dip) from (ds_cons (ds_set nd rfl (by first | exact Or.inl rfl | exact Or.inr rfl) (de_int (i := 0))) (ds_cons (ds_for PassesOwn.never rfl (di_rng1 rfl hB.b_range (da_cons (de_var (pv 1)) da_nil)) (dg_name nd rfl (by first | exact Or.inl rfl | exact Or.inr rfl)) (ds_one (ds_set nd rfl (by first | exact Or.inl rfl | exact Or.inr rfl) (de_bin does_add (de_bin does_mul (de_var (pv 2)) (de_int (i := 1000003))) (cl c_Ulaw_dip bn_Ulaw_dip hr hg (da_cons (de_var (pv 0)) (da_cons (de_int (i := 1000003)) da_nil))))))) (ds_one (ds_ret (de_var (pv 2)))))), rd_Ulaw_great⟩
theorem w_Ulaw_stack (T : At K mg "_law_stack" (top 58)) (c_Ulaw_dip : Ok P w K mg base "_law_dip" (top 55) ["_law_well_here", "_law_many"] 1 sp_Ulaw_dip) (c_Ulaw_great : Ok P w K mg base "_law_great" (top 57) ["_law_well_here", "_law_many"] 2 sp_Ulaw_great) (c_Ulaw_pick : Ok P w K mg base "_law_pick" (top 56) ["_law_well_here", "_law_some"] 2 sp_Ulaw_pick)  : Ok P w K mg base "_law_stack" (top 58) ["_law_well_here"] 3 sp_Ulaw_stack :=
  ok_of T sc_Ulaw_stack ln_Ulaw_stack fun cdv A out s H E hr hg => by
    have nd := (sc_Ulaw_stack).nd
    exact ⟨_, show DSs _ _ (R_Ulaw_stack sp_Ulaw_dip sp_Ulaw_great sp_Ulaw_pick) from (ds_cons (ds_set nd rfl (by first | exact Or.inl rfl | exact Or.inr rfl) (cl c_Ulaw_dip bn_Ulaw_dip hr hg (da_cons (de_var (pv 0)) (da_cons (de_int (i := 7)) da_nil)))) (ds_cons (ds_if (dt_cmp (does_lt hr.units0) (de_var (pv 1)) (de_int (i := 2)) rfl) (ds_one (ds_ret (de_var (pv 1)))) ds_nil) (ds_one (ds_ret (de_if (dt_cmp (does_lt hr.units0) (de_var (pv 1)) (de_int (i := 4)) rfl) (cl c_Ulaw_dip bn_Ulaw_dip hr hg (da_cons (de_var (pv 0)) (da_cons (de_int (i := 60)) da_nil))) (cl c_Ulaw_great bn_Ulaw_great hr hg (da_cons (de_var (pv 0)) (da_cons (cl c_Ulaw_pick bn_Ulaw_pick hr hg (da_cons (de_var (pv 0)) (da_cons (de_df (df_lst (da_cons (de_int (i := 1)) (da_cons (de_int (i := 3)) (da_cons (de_int (i := 10)) (da_cons (de_int (i := 10)) da_nil)))))) da_nil))) da_nil)))))))), rd_Ulaw_stack⟩
theorem w_Ulaw_low (T : At K mg "_law_low" (top 59)) (hB : Bs mg)   : Ok P w K mg base "_law_low" (top 59) ["_law_top", "_law_bottom"] 1 sp_Ulaw_low :=
  ok_of T sc_Ulaw_low ln_Ulaw_low fun cdv A out s H E hr hg => by
    have nd := (sc_Ulaw_low).nd
    exact ⟨_, show DSs _ _ (R_Ulaw_low ) from (ds_cons (ds_par rfl nd rfl rfl (by decide) rfl rfl (da_cons (de_call1 does_abs rfl hB.b_abs (by decide +kernel) (dp_var (pv 0))) (da_cons (de_var (pv 1)) da_nil)) rfl) (ds_cons (ds_while PassesOwn.never (dt_cmp does_gt (de_var (pv 3)) (de_int (i := 0)) rfl) (ds_one (ds_par rfl nd rfl rfl (by decide) rfl rfl (da_cons (de_var (pv 3)) (da_cons (de_bin does_mod (de_callT1 does_int rfl hB.b_int (by decide +kernel) (dp_var (pv 2))) (de_var (pv 3))) da_nil)) rfl))) (ds_one (ds_ret (de_tup (da_cons (de_bin does_div (de_var (pv 0)) (de_var (pv 2))) (da_cons (de_bin does_div (de_var (pv 1)) (de_var (pv 2))) da_nil))))))), rd_Ulaw_low⟩
theorem w_Ulaw_counts (T : At K mg "_law_counts" (top 60)) (hB : Bs mg) (c_Ulaw_pick : Ok P w K mg base "_law_pick" (top 56) ["_law_well_here", "_law_some"] 2 sp_Ulaw_pick) (c_Ulaw_dip : Ok P w K mg base "_law_dip" (top 55) ["_law_well_here", "_law_many"] 1 sp_Ulaw_dip)  : Ok P w K mg base "_law_counts" (top 60) ["_law_well_here", "_law_most"] 3 sp_Ulaw_counts :=
  ok_of T sc_Ulaw_counts ln_Ulaw_counts fun cdv A out s H E hr hg => by
    have nd := (sc_Ulaw_counts).nd
    exact ⟨_, show DSs _ _ (R_Ulaw_counts sp_Ulaw_pick sp_Ulaw_dip) from (ds_cons (ds_set nd rfl (by first | exact Or.inl rfl | exact Or.inr rfl) (cl c_Ulaw_pick bn_Ulaw_pick hr hg (da_cons (de_var (pv 0)) (da_cons (de_df (df_lst (da_cons (de_int (i := 1)) (da_cons (de_int (i := 2)) (da_cons (de_int (i := 2)) (da_cons (de_int (i := 3)) (da_cons (de_int (i := 3)) (da_cons (de_int (i := 4)) (da_cons (de_int (i := 5)) (da_cons (de_int (i := 8)) da_nil)))))))))) da_nil)))) (ds_cons (ds_setLcV rfl rfl nd rfl rfl (sw_true rfl rfl rfl (by decide +kernel)) (di_rng1 rfl hB.b_range (da_cons (de_var (pv 2)) da_nil)) (blkOk_by (own := [("_law_k", 4)]) (N := ["_law_well_here", "_law_most", "_law_size", "_law_found", "_law_k"]) (sc := defScope (top 60)) (by decide +kernel)) (fun _ _ _ _ _ => (dg_name nd rfl (by first | exact Or.inl rfl | exact Or.inr rfl))) (fun _ _ _ _ _ => dts_nil) (fun _ _ _ _ _ => (cl c_Ulaw_dip bn_Ulaw_dip hr hg (da_cons (de_var (pv 0)) (da_cons (de_bin does_add (de_var (pv 1)) (de_int (i := 1))) da_nil)))) (by decide)) (ds_cons (ds_if (dt_cmp (does_eq hr.units) (cl c_Ulaw_dip bn_Ulaw_dip hr hg (da_cons (de_var (pv 0)) (da_cons (de_int (i := 4)) da_nil))) (de_int (i := 0)) rfl) (ds_one (ds_setIx (pv 3) (de_int (i := 0)) (cl c_Ulaw_dip bn_Ulaw_dip hr hg (da_cons (de_var (pv 0)) (da_cons (de_var (pv 2)) da_nil))))) ds_nil) (ds_cons (ds_if (dt_cmp (does_eq hr.units) (de_call1 (does_sum rfl) rfl hB.b_sum (by decide +kernel) (dp_var (pv 3))) (de_int (i := 0)) rfl) (ds_one (ds_setIx (pv 3) (de_bin does_add (de_int (i := 1)) (cl c_Ulaw_dip bn_Ulaw_dip hr hg (da_cons (de_var (pv 0)) (da_cons (de_var (pv 1)) da_nil)))) (cl c_Ulaw_dip bn_Ulaw_dip hr hg (da_cons (de_var (pv 0)) (da_cons (de_var (pv 2)) da_nil))))) ds_nil) (ds_one (ds_ret (de_callT1 does_tuple rfl hB.b_tuple (by decide +kernel) (dp_var (pv 3))))))))), rd_Ulaw_counts⟩
theorem w_Ulaw_row (T : At K mg "_law_row" (top 61)) (hB : Bs mg) (c_Ulaw_pick : Ok P w K mg base "_law_pick" (top 56) ["_law_well_here", "_law_some"] 2 sp_Ulaw_pick) (c_Ulaw_counts : Ok P w K mg base "_law_counts" (top 60) ["_law_well_here", "_law_most"] 3 sp_Ulaw_counts) (c_Ulaw_dip : Ok P w K mg base "_law_dip" (top 55) ["_law_well_here", "_law_many"] 1 sp_Ulaw_dip)  : Ok P w K mg base "_law_row" (top 61) ["_law_well_here"] 4 sp_Ulaw_row :=
  ok_of T sc_Ulaw_row ln_Ulaw_row fun cdv A out s H E hr hg => by
    have nd := (sc_Ulaw_row).nd
    exact ⟨_, show DSs _ _ (R_Ulaw_row sp_Ulaw_pick sp_Ulaw_counts sp_Ulaw_dip) from (ds_cons (ds_set nd rfl (by first | exact Or.inl rfl | exact Or.inr rfl) (cl c_Ulaw_pick bn_Ulaw_pick hr hg (da_cons (de_var (pv 0)) (da_cons (de_df (df_lst (da_cons (de_int (i := 0)) (da_cons (de_int (i := 1)) (da_cons (de_int (i := 1)) (da_cons (de_int (i := 2)) (da_cons (de_int (i := 2)) (da_cons (de_int (i := 3)) (da_cons (de_int (i := 4)) (da_cons (de_int (i := 5)) (da_cons (de_int (i := 6)) (da_cons (de_int (i := 7)) (da_cons (de_int (i := 9)) (da_cons (de_int (i := 12)) (da_cons (de_int (i := 20)) (da_cons (de_int (i := 40)) da_nil)))))))))))))))) da_nil)))) (ds_cons (ds_setLcV rfl rfl nd rfl rfl (sw_true rfl rfl rfl (by decide +kernel)) (di_rng1 rfl hB.b_range (da_cons (de_var (pv 1)) da_nil)) (blkOk_by (own := [("_law_k", 4)]) (N := ["_law_well_here", "_law_many", "_law_tables", "_law_letters", "_law_k", "_law_table", "_law_x"]) (sc := defScope (top 61)) (by decide +kernel)) (fun _ _ _ _ _ => (dg_name nd rfl (by first | exact Or.inl rfl | exact Or.inr rfl))) (fun _ _ _ _ _ => dts_nil) (fun _ _ _ _ _ => (cl c_Ulaw_counts bn_Ulaw_counts hr hg (da_cons (de_var (pv 0)) (da_cons (de_if (dt_cmp does_gt (de_var (pv 1)) (de_int (i := 9)) rfl) (de_int (i := 3)) (de_int (i := 9))) da_nil)))) (by decide)) (ds_cons (ds_if (dt_w (dw_and (dt_cmp does_gt (de_var (pv 1)) (de_int (i := 0)) rfl) (dw_and1 (dt_cmp (does_eq hr.units) (cl c_Ulaw_dip bn_Ulaw_dip hr hg (da_cons (de_var (pv 0)) (da_cons (de_int (i := 5)) da_nil))) (de_int (i := 0)) rfl)))) (ds_one (ds_setIx (pv 2) (cl c_Ulaw_counts bn_Ulaw_counts hr hg (da_cons (de_var (pv 0)) (da_cons (de_int (i := 999)) da_nil))) (cl c_Ulaw_dip bn_Ulaw_dip hr hg (da_cons (de_var (pv 0)) (da_cons (de_var (pv 1)) da_nil))))) ds_nil) (ds_cons (ds_setLcV rfl rfl nd rfl rfl (sw_true rfl rfl rfl (by decide +kernel)) (di_seq (de_var (pv 2))) (blkOk_by (own := [("_law_table", 5)]) (N := ["_law_well_here", "_law_many", "_law_tables", "_law_letters", "_law_k", "_law_table", "_law_x"]) (sc := defScope (top 61)) (by decide +kernel)) (fun _ _ _ _ _ => (dg_name nd rfl (by first | exact Or.inl rfl | exact Or.inr rfl))) (fun _ _ _ _ _ => dts_nil) (fun _ _ _ _ _ => (cl c_Ulaw_pick bn_Ulaw_pick hr hg (da_cons (de_var (pv 0)) (da_cons (de_df (df_lcV rfl rfl nd (di_rng1 rfl hB.b_range (da_cons (de_call1 does_len rfl hB.b_len (by decide +kernel) (dp_var (pv 5))) da_nil)) (blkOk_by (own := [("_law_x", 6)]) (N := ["_law_well_here", "_law_many", "_law_tables", "_law_letters", "_law_k", "_law_table", "_law_x"]) (by rfl)) (fun _ _ _ _ _ => (dg_name nd rfl (by first | exact Or.inl rfl | exact Or.inr rfl))) (fun _ _ _ _ _ => (dts_one (dt_cmp does_gt (de_ixN (pv 5) (de_var (pv 6)) (fun _ _ => rfl)) (de_int (i := 0)) rfl))) (fun _ _ _ _ _ => (de_var (pv 6))) (by decide))) da_nil)))) (by decide)) (ds_one (ds_ret (de_tup (da_cons (de_callT1 does_tuple rfl hB.b_tuple (by decide +kernel) (dp_var (pv 2))) (da_cons (de_callT1 does_tuple rfl hB.b_tuple (by decide +kernel) (dp_var (pv 3))) da_nil))))))))), rd_Ulaw_row⟩
theorem w_Ulaw_popped (T : At K mg "_law_popped" (top 62)) (hB : Bs mg)   : Ok P w K mg base "_law_popped" (top 62) ["_law_stack_here", "_law_tables"] 1 sp_Ulaw_popped :=
  ok_of T sc_Ulaw_popped ln_Ulaw_popped fun cdv A out s H E hr hg => by
    have nd := (sc_Ulaw_popped).nd
    exact ⟨_, show DSs _ _ (R_Ulaw_popped ) from (ds_cons (ds_setF nd rfl (by first | exact Or.inl rfl | exact Or.inr rfl) (df_lst da_nil)) (ds_cons (ds_for PassesOwn.never rfl (di_seq (de_var (pv 1))) (dg_name nd rfl (by first | exact Or.inl rfl | exact Or.inr rfl)) (ds_cons (ds_set nd rfl (by first | exact Or.inl rfl | exact Or.inr rfl) (de_call1 (does_sum rfl) rfl hB.b_sum (by decide +kernel) (dp_var (pv 3)))) (ds_cons (ds_par3 rfl nd rfl rfl rfl (by decide) (by decide) (by decide) rfl rfl rfl (da_cons (de_bin does_div (de_var (pv 0)) (de_var (pv 4))) (da_cons (de_bin does_mod (de_callT1 does_int rfl hB.b_int (by decide +kernel) (dp_var (pv 0))) (de_var (pv 4))) (da_cons (de_int (i := 0)) da_nil))) rfl) (ds_cons (ds_while PassesOwn.never (dt_cmp does_ge (de_var (pv 6)) (de_ixN (pv 3) (de_var (pv 7)) (fun _ _ => rfl)) rfl) (ds_cons (ds_set nd rfl (by first | exact Or.inl rfl | exact Or.inr rfl) (de_bin does_sub (de_var (pv 6)) (de_ixN (pv 3) (de_var (pv 7)) (fun _ _ => rfl)))) (ds_one (ds_set nd rfl (by first | exact Or.inl rfl | exact Or.inr rfl) (de_bin does_add (de_var (pv 7)) (de_int (i := 1))))))) (ds_cons (ds_append (pv 2) (de_var (pv 7))) (ds_one (ds_set nd rfl (by first | exact Or.inl rfl | exact Or.inr rfl) (de_bin does_add (de_bin does_mul (de_ixN (pv 3) (de_var (pv 7)) (fun _ _ => rfl)) (de_var (pv 5))) (de_var (pv 6)))))))))) (ds_one (ds_ret (de_tup (da_cons (de_callT1 does_tuple rfl hB.b_tuple (by decide +kernel) (dp_var (pv 2))) (da_cons (de_var (pv 0)) da_nil))))))), rd_Ulaw_popped⟩
theorem w_Ulaw_lean (T : At K mg "_law_lean" (top 63)) (hB : Bs mg)   : Ok P w K mg base "_law_lean" (top 63) ["_law_tables", "_law_letters"] 1 sp_Ulaw_lean :=
  ok_of T sc_Ulaw_lean ln_Ulaw_lean fun cdv A out s H E hr hg => by
    have nd := (sc_Ulaw_lean).nd
    exact ⟨_, show DSs _ _ (R_Ulaw_lean ) from (ds_cons (ds_asg (de_tup (da_cons (de_int (i := 1)) (da_cons (de_int (i := 0)) (da_cons (de_int (i := 0)) (da_cons (de_int (i := 1)) da_nil))))) (dg_tup rfl (dgs_cons (dg_name nd rfl (by first | exact Or.inl rfl | exact Or.inr rfl)) (dgs_cons (dg_name nd rfl (by first | exact Or.inl rfl | exact Or.inr rfl)) (dgs_cons (dg_name nd rfl (by first | exact Or.inl rfl | exact Or.inr rfl)) (dgs_cons (dg_name nd rfl (by first | exact Or.inl rfl | exact Or.inr rfl)) dgs_nil)))))) (ds_cons (ds_for PassesOwn.never rfl (di_seq (de_df (df_rev (dp_of (de_df (df_listRg rfl hB.b_list rfl hB.b_range (de_call1 does_len rfl hB.b_len (by decide +kernel) (dp_var (pv 0))))))))) (dg_name nd rfl (by first | exact Or.inl rfl | exact Or.inr rfl)) (ds_cons (ds_par rfl nd rfl rfl (by decide) rfl rfl (da_cons (de_ixN (pv 0) (de_var (pv 6)) (fun _ _ => rfl)) (da_cons (de_ixN (pv 1) (de_var (pv 6)) (fun _ _ => rfl)) da_nil)) rfl) (ds_cons (ds_asg (de_tup (da_cons (de_call1 (does_sum rfl) rfl hB.b_sum (by decide +kernel) (dp_var (pv 7))) (da_cons (de_ixN (pv 7) (de_var (pv 8)) (fun _ _ => rfl)) (da_cons (de_call1 (does_sum rfl) rfl hB.b_sum (by decide +kernel) (dp_of (de_slN (pv 7) do_none (do_some (de_var (pv 8)))))) da_nil)))) (dg_tup rfl (dgs_cons (dg_name nd rfl (by first | exact Or.inl rfl | exact Or.inr rfl)) (dgs_cons (dg_name nd rfl (by first | exact Or.inl rfl | exact Or.inr rfl)) (dgs_cons (dg_name nd rfl (by first | exact Or.inl rfl | exact Or.inr rfl)) dgs_nil))))) (ds_cons (ds_setLcV rfl rfl nd rfl rfl (sw_true rfl rfl rfl (by decide +kernel)) (di_rng1 rfl hB.b_range (da_cons (de_var (pv 10)) da_nil)) (blkOk_by (own := [("_law_i", 13)]) (N := ["_law_tables", "_law_letters", "_law_grown", "_law_low_here", "_law_high", "_law_under", "_law_k", "_law_table", "_law_x", "_law_wide", "_law_much", "_law_ahead", "_law_gaps", "_law_i"]) (sc := defScope (top 63)) (by decide +kernel)) (fun _ _ _ _ _ => (dg_name nd rfl (by first | exact Or.inl rfl | exact Or.inr rfl))) (fun _ _ _ _ _ => dts_nil) (fun _ _ _ _ _ => (de_bin does_sub (de_bin does_mul (de_var (pv 10)) (de_bin does_add (de_var (pv 11)) (de_var (pv 13)))) (de_bin does_mul (de_var (pv 9)) (de_var (pv 13))))) (by decide)) (ds_cons (ds_set nd rfl (by first | exact Or.inl rfl | exact Or.inr rfl) (de_bin does_add (de_bin does_mul (de_var (pv 9)) (de_var (pv 3))) (de_bin does_mul (de_call1 (does_min rfl) rfl hB.b_min (by decide +kernel) (dp_var (pv 12))) (de_var (pv 5))))) (ds_cons (ds_set nd rfl (by first | exact Or.inl rfl | exact Or.inr rfl) (de_bin does_add (de_bin does_mul (de_var (pv 9)) (de_var (pv 4))) (de_bin does_mul (de_call1 (does_max rfl) rfl hB.b_max (by decide +kernel) (dp_var (pv 12))) (de_var (pv 5))))) (ds_one (ds_par rfl nd rfl rfl (by decide) rfl rfl (da_cons (de_bin does_mul (de_var (pv 2)) (de_var (pv 9))) (da_cons (de_bin does_mul (de_var (pv 5)) (de_var (pv 10))) da_nil)) rfl)))))))) (ds_one (ds_ret (de_tup (da_cons (de_var (pv 2)) (da_cons (de_var (pv 3)) (da_cons (de_var (pv 4)) (da_cons (de_var (pv 5)) da_nil))))))))), rd_Ulaw_lean⟩
theorem w_Ulaw_is_led (T : At K mg "_law_is_led" (top 64)) (hB : Bs mg) (c_lean_holds : Ok P w K mg base "lean_holds" (top 36) ["lean", "stack", "after"] 6 sp_lean_holds) (c_lean_back : Ok P w K mg base "lean_back" (top 35) ["one"] 6 sp_lean_back)  : Ok P w K mg base "_law_is_led" (top 64) ["_law_stack_here", "_law_pushed", "_law_four", "_law_lean_here"] 7 sp_Ulaw_is_led :=
  ok_of T sc_Ulaw_is_led ln_Ulaw_is_led fun cdv A out s H E hr hg => by
    have nd := (sc_Ulaw_is_led).nd
    exact ⟨_, show DSs _ _ (R_Ulaw_is_led sp_lean_holds sp_lean_back) from (ds_cons (ds_asg (de_var (pv 2)) (dg_tup rfl (dgs_cons (dg_name nd rfl (by first | exact Or.inl rfl | exact Or.inr rfl)) (dgs_cons (dg_name nd rfl (by first | exact Or.inl rfl | exact Or.inr rfl)) (dgs_cons (dg_name nd rfl (by first | exact Or.inl rfl | exact Or.inr rfl)) (dgs_cons (dg_name nd rfl (by first | exact Or.inl rfl | exact Or.inr rfl)) dgs_nil)))))) (ds_cons (ds_set nd rfl (by first | exact Or.inl rfl | exact Or.inr rfl) (de_bin does_sub (de_int (i := 0)) (de_bin does_div (de_bin does_sub (de_bin does_sub (de_int (i := 0)) (de_bin does_mul (de_var (pv 4)) (de_var (pv 0)))) (de_var (pv 5))) (de_var (pv 7))))) (ds_cons (ds_set nd rfl (by first | exact Or.inl rfl | exact Or.inr rfl) (de_bin does_div (de_bin does_add (de_bin does_mul (de_var (pv 4)) (de_var (pv 0))) (de_var (pv 6))) (de_var (pv 7)))) (ds_cons (ds_if (dt_w (dw_or (dt_not (dt_chain does_le does_le (de_var (pv 8)) (de_var (pv 1)) (de_var (pv 9)))) (dw_or1 (dt_cmp does_notB (cl c_lean_holds bn_lean_holds hr hg (da_cons (de_var (pv 3)) (da_cons (de_var (pv 0)) (da_cons (de_var (pv 1)) da_nil)))) (de_bl (b := true)) rfl)))) (ds_one (ds_ret (de_bl (b := false)))) ds_nil) (ds_cons (ds_set nd rfl (by first | exact Or.inl rfl | exact Or.inr rfl) (de_df (df_lst (da_cons (de_tup (da_cons (de_var (pv 8)) (da_cons (de_bl (b := true)) da_nil))) (da_cons (de_tup (da_cons (de_var (pv 9)) (da_cons (de_bl (b := true)) da_nil))) (da_cons (de_tup (da_cons (de_bin does_sub (de_var (pv 8)) (de_int (i := 1))) (da_cons (de_bl (b := false)) da_nil))) (da_cons (de_tup (da_cons (de_bin does_add (de_var (pv 9)) (de_int (i := 1))) (da_cons (de_bl (b := false)) da_nil))) da_nil))))))) (ds_cons (ds_set nd rfl (by first | exact Or.inl rfl | exact Or.inr rfl) (cl c_lean_back bn_lean_back hr hg (da_cons (de_var (pv 3)) da_nil))) (ds_cons (ds_for PassesOwn.never rfl (di_seq (de_df (df_lcV rfl rfl nd (di_seq (de_var (pv 10))) (blkOk_by (own := [("_law_pair", 15)]) (N := ["_law_stack_here", "_law_pushed", "_law_four", "_law_lean_here", "_law_grown", "_law_low_here", "_law_high", "_law_under", "_law_least", "_law_most", "_law_some", "_law_back", "_law_after", "_law_due", "_law_told", "_law_pair"]) (sc := defScope (top 64)) (by decide +kernel)) (fun _ _ _ _ _ => (dg_name nd rfl (by first | exact Or.inl rfl | exact Or.inr rfl))) (fun _ _ _ _ _ => (dts_one (dt_cmp does_ge (de_ixN (pv 15) (de_int (i := 0)) (fun _ _ => rfl)) (de_int (i := 0)) rfl))) (fun _ _ _ _ _ => (de_var (pv 15))) (by decide)))) (dg_tup rfl (dgs_cons (dg_name nd rfl (by first | exact Or.inl rfl | exact Or.inr rfl)) (dgs_cons (dg_name nd rfl (by first | exact Or.inl rfl | exact Or.inr rfl)) dgs_nil))) (ds_cons (ds_set nd rfl (by first | exact Or.inl rfl | exact Or.inr rfl) (de_df (df_lst (da_cons (cl c_lean_holds bn_lean_holds hr hg (da_cons (de_var (pv 3)) (da_cons (de_var (pv 0)) (da_cons (de_var (pv 12)) da_nil)))) (da_cons (clK0 c_lean_holds kw_lean_holds_0_after_stack_lean hr hg (dk_cons (de_var (pv 0)) (dk_cons (de_var (pv 12)) (dk_cons (de_var (pv 11)) dk_nil)))) da_nil))))) (ds_one (ds_if (dt_cmp (does_ne hr.units) (de_call1 (does_repr hg (hu100 hr)) rfl hB.b_repr (by decide +kernel) (dp_var (pv 14))) (de_call1 (does_repr hg (hu100 hr)) rfl hB.b_repr (by decide +kernel) (dp_of (de_df (df_lst (da_cons (de_var (pv 13)) (da_cons (de_var (pv 13)) da_nil)))))) rfl) (ds_one (ds_ret (de_bl (b := false)))) ds_nil)))) (ds_one (ds_ret (de_bl (b := true))))))))))), rd_Ulaw_is_led⟩
theorem w_Ulaw_is_long (T : At K mg "_law_is_long" (top 65)) (hB : Bs mg)   : Ok P w K mg base "_law_is_long" (top 65) ["_law_base", "_law_one", "_law_many"] 1 sp_Ulaw_is_long :=
  ok_of T sc_Ulaw_is_long ln_Ulaw_is_long fun cdv A out s H E hr hg => by
    have nd := (sc_Ulaw_is_long).nd
    exact ⟨_, show DSs _ _ (R_Ulaw_is_long ) from (ds_cons (ds_par rfl nd rfl rfl (by decide) rfl rfl (da_cons (de_int (i := 0)) (da_cons (de_ixN (pv 1) (de_int (i := 1)) (fun _ _ => rfl)) da_nil)) rfl) (ds_cons (ds_while PassesOwn.never (dt_cmp (does_lt hr.units0) (de_var (pv 4)) (de_ixN (pv 1) (de_int (i := 0)) (fun _ _ => rfl)) rfl) (ds_one (ds_par rfl nd rfl rfl (by decide) rfl rfl (da_cons (de_bin does_add (de_var (pv 3)) (de_int (i := 1))) (da_cons (de_bin does_mul (de_var (pv 0)) (de_var (pv 4))) da_nil)) rfl))) (ds_one (ds_ret (de_cmp (does_eq hr.units) (de_call1 (does_repr hg (hu100 hr)) rfl hB.b_repr (by decide +kernel) (dp_var (pv 2))) (de_call1 (does_repr hg (hu100 hr)) rfl hB.b_repr (by decide +kernel) (dp_var (pv 3))) rfl))))), rd_Ulaw_is_long⟩
theorem w_Ulaw_is_told (T : At K mg "_law_is_told" (top 66)) (hB : Bs mg) (c_row_of : Ok P w K mg base "row_of" (top 46) ["base", "stack"] 3 sp_row_of) (c_stack_of : Ok P w K mg base "stack_of" (top 47) ["base", "digits"] 6 sp_stack_of) (c_reach_of : Ok P w K mg base "reach_of" (top 52) ["base", "one"] 3 sp_reach_of) (c_places_of : Ok P w K mg base "places_of" (top 51) ["base", "number"] 3 sp_places_of) (c_plus : Ok P w K mg base "plus" (top 17) ["one", "other"] 4 sp_plus) (c_times : Ok P w K mg base "times" (top 19) ["one", "other"] 4 sp_times) (c_Ulaw_is_long : Ok P w K mg base "_law_is_long" (top 65) ["_law_base", "_law_one", "_law_many"] 1 sp_Ulaw_is_long)  : Ok P w K mg base "_law_is_told" (top 66) ["_law_base", "_law_stack_here", "_law_pushed", "_law_lean_here"] 7 sp_Ulaw_is_told :=
  ok_of T sc_Ulaw_is_told ln_Ulaw_is_told fun cdv A out s H E hr hg => by
    have nd := (sc_Ulaw_is_told).nd
    exact ⟨_, show DSs _ _ (R_Ulaw_is_told sp_row_of sp_stack_of sp_reach_of sp_places_of sp_plus sp_times sp_Ulaw_is_long) from (ds_cons (ds_par rfl nd rfl rfl (by decide) rfl rfl (da_cons (cl c_row_of bn_row_of hr hg (da_cons (de_var (pv 0)) (da_cons (de_var (pv 2)) da_nil))) (da_cons (de_int (i := 0)) da_nil)) rfl) (ds_cons (ds_if (dt_w (dw_or (dt_not (dt_tru (dp_of (de_isi rfl hB.b_isinstance (de_var (pv 4)) (pe_tyN rfl hB.b_tuple))))) (dw_or1 (dt_cmp (does_ne hr.units) (de_df (df_lcV rfl rfl nd (di_seq (de_var (pv 4))) (blkOk_by (own := [("_law_d", 13)]) (N := ["_law_base", "_law_stack_here", "_law_pushed", "_law_lean_here", "_law_row_here", "_law_found", "_law_digit", "_law_whole", "_law_ends", "_law_edge", "_law_one", "_law_many", "_law_much", "_law_d"]) (sc := defScope (top 66)) (by decide +kernel)) (fun _ _ _ _ _ => (dg_name nd rfl (by first | exact Or.inl rfl | exact Or.inr rfl))) (fun _ _ _ _ _ => (dts_one (dt_w (dw_or (dt_tru (dp_of (de_isi rfl hB.b_isinstance (de_var (pv 13)) (pe_tyN rfl hB.b_bool)))) (dw_or1 (dt_not (dt_chain does_le (does_lt hr.units0) (de_int (i := 0)) (de_var (pv 13)) (de_var (pv 0))))))))) (fun _ _ _ _ _ => (de_var (pv 13))) (by decide))) (de_df (df_lst da_nil)) rfl)))) (ds_one (ds_ret (de_bl (b := false)))) ds_nil) (ds_cons (ds_for PassesOwn.never rfl (di_seq (de_var (pv 4))) (dg_name nd rfl (by first | exact Or.inl rfl | exact Or.inr rfl)) (ds_one (ds_set nd rfl (by first | exact Or.inl rfl | exact Or.inr rfl) (de_bin does_add (de_bin does_add (de_bin does_mul (de_var (pv 0)) (de_var (pv 5))) (de_var (pv 6))) (de_int (i := 1)))))) (ds_cons (ds_if (dt_w (dw_or (dt_cmp (does_ne hr.units) (de_var (pv 5)) (de_var (pv 2)) rfl) (dw_or1 (dt_cmp (does_ne hr.units) (clK0 c_stack_of kw_stack_of_0_digits_base hr hg (dk_cons (de_var (pv 4)) (dk_cons (de_var (pv 0)) dk_nil))) (de_var (pv 2)) rfl)))) (ds_one (ds_ret (de_bl (b := false)))) ds_nil) (ds_cons (ds_set nd rfl (by first | exact Or.inl rfl | exact Or.inr rfl) (de_bin does_add (de_bin does_mul (de_bin does_sub (de_var (pv 0)) (de_int (i := 1))) (de_var (pv 2))) (de_int (i := 1)))) (ds_cons (ds_if (dt_cmp (does_ne hr.units) (de_df (df_lst (da_cons (cl c_places_of bn_places_of hr hg (da_cons (de_var (pv 0)) (da_cons (de_var (pv 7)) da_nil))) (da_cons (cl c_reach_of bn_reach_of hr hg (da_cons (de_var (pv 0)) (da_cons (de_tup (da_cons (de_bin does_add (de_var (pv 7)) (de_int (i := 1))) (da_cons (de_int (i := 1)) da_nil))) da_nil))) da_nil)))) (de_bin does_mul (de_df (df_lst (da_cons (de_bin does_add (de_call1 does_len rfl hB.b_len (by decide +kernel) (dp_var (pv 4))) (de_int (i := 1))) da_nil))) (de_int (i := 2))) rfl) (ds_one (ds_ret (de_bl (b := false)))) ds_nil) (ds_cons (ds_setF nd rfl (by first | exact Or.inl rfl | exact Or.inr rfl) (df_lst da_nil)) (ds_cons (ds_for PassesOwn.never rfl (di_seq (de_slN (pv 3) (do_some (de_int (i := 1))) do_none)) (dg_name nd rfl (by first | exact Or.inl rfl | exact Or.inr rfl)) (ds_cons (ds_set nd rfl (by first | exact Or.inl rfl | exact Or.inr rfl) (cl c_plus bn_plus hr hg (da_cons (cl c_times bn_times hr hg (da_cons (de_ixN (pv 3) (de_int (i := 0)) (fun _ _ => rfl)) (da_cons (de_tup (da_cons (de_var (pv 1)) (da_cons (de_int (i := 1)) da_nil))) da_nil))) (da_cons (de_var (pv 9)) da_nil)))) (ds_one (ds_append (pv 8) (cl c_plus bn_plus hr hg (da_cons (cl c_times bn_times hr hg (da_cons (de_tup (da_cons (de_bin does_sub (de_var (pv 0)) (de_int (i := 1))) (da_cons (de_int (i := 1)) da_nil))) (da_cons (de_var (pv 10)) da_nil))) (da_cons (de_tup (da_cons (de_int (i := 1)) (da_cons (de_int (i := 1)) da_nil))) da_nil))))))) (ds_cons (ds_setLcV rfl rfl nd rfl rfl (sw_true rfl rfl rfl (by decide +kernel)) (di_seq (de_var (pv 8))) (blkOk_by (own := [("_law_one", 10)]) (N := ["_law_base", "_law_stack_here", "_law_pushed", "_law_lean_here", "_law_row_here", "_law_found", "_law_digit", "_law_whole", "_law_ends", "_law_edge", "_law_one", "_law_many", "_law_much", "_law_d"]) (sc := defScope (top 66)) (by decide +kernel)) (fun _ _ _ _ _ => (dg_name nd rfl (by first | exact Or.inl rfl | exact Or.inr rfl))) (fun _ _ _ _ _ => dts_nil) (fun _ _ _ _ _ => (de_if (dt_cmp does_gt (de_ixN (pv 10) (de_int (i := 0)) (fun _ _ => rfl)) (de_int (i := 0)) rfl) (cl c_reach_of bn_reach_of hr hg (da_cons (de_var (pv 0)) (da_cons (de_var (pv 10)) da_nil))) (de_int (i := 0)))) (by decide)) (ds_cons (ds_for PassesOwn.never rfl (di_zip rfl hB.b_zip (da_cons (de_var (pv 8)) (da_cons (de_var (pv 11)) da_nil))) (dg_tup rfl (dgs_cons (dg_name nd rfl (by first | exact Or.inl rfl | exact Or.inr rfl)) (dgs_cons (dg_name nd rfl (by first | exact Or.inl rfl | exact Or.inr rfl)) dgs_nil))) (ds_one (ds_if (dt_w (dw_and (dt_cmp does_gt (de_ixN (pv 10) (de_int (i := 0)) (fun _ _ => rfl)) (de_int (i := 0)) rfl) (dw_and1 (dt_not (dt_tru (dp_of (cl c_Ulaw_is_long bn_Ulaw_is_long hr hg (da_cons (de_var (pv 0)) (da_cons (de_var (pv 10)) (da_cons (de_var (pv 12)) da_nil)))))))))) (ds_one (ds_ret (de_bl (b := false)))) ds_nil))) (ds_one (ds_ret (de_chain does_le does_le (de_bin does_sub (de_ixN (pv 11) (de_int (i := 0)) (fun _ _ => rfl)) (de_int (i := 1))) (de_call1 does_len rfl hB.b_len (by decide +kernel) (dp_var (pv 4))) (de_ixN (pv 11) (de_int (i := 1)) (fun _ _ => rfl))))))))))))))), rd_Ulaw_is_told⟩
theorem w_Ulaw_is_fed (T : At K mg "_law_is_fed" (top 67)) (hB : Bs mg) (c_Ulaw_dip : Ok P w K mg base "_law_dip" (top 55) ["_law_well_here", "_law_many"] 1 sp_Ulaw_dip) (c_added : Ok P w K mg base "added" (top 48) ["base", "stack", "digits"] 5 sp_added) (c_pop_letters : Ok P w K mg base "pop_letters" (top 43) ["stack", "tables"] 6 sp_pop_letters) (c_taken : Ok P w K mg base "taken" (top 49) ["base", "stack", "many"] 3 sp_taken) (c_Ulaw_popped : Ok P w K mg base "_law_popped" (top 62) ["_law_stack_here", "_law_tables"] 1 sp_Ulaw_popped) (c_push_letters : Ok P w K mg base "push_letters" (top 42) ["stack", "tables", "letters"] 7 sp_push_letters)  : Ok P w K mg base "_law_is_fed" (top 67) ["_law_well_here", "_law_base", "_law_pushed", "_law_tables"] 8 sp_Ulaw_is_fed :=
  ok_of T sc_Ulaw_is_fed ln_Ulaw_is_fed fun cdv A out s H E hr hg => by
    have nd := (sc_Ulaw_is_fed).nd
    exact ⟨_, show DSs _ _ (R_Ulaw_is_fed sp_Ulaw_dip sp_added sp_pop_letters sp_taken sp_Ulaw_popped sp_push_letters) from (ds_cons (ds_set nd rfl (by first | exact Or.inl rfl | exact Or.inr rfl) (de_callT1 does_tuple rfl hB.b_tuple (by decide +kernel) (dp_of (de_df (df_lcV rfl rfl nd (di_rng1 rfl hB.b_range (da_cons (cl c_Ulaw_dip bn_Ulaw_dip hr hg (da_cons (de_var (pv 0)) (da_cons (de_int (i := 7)) da_nil))) da_nil)) (blkOk_by (own := [("_law_k", 10)]) (N := ["_law_well_here", "_law_base", "_law_pushed", "_law_tables", "_law_more", "_law_cut", "_law_due", "_law_digit", "_law_late", "_law_back", "_law_k"]) (sc := defScope (top 67)) (by decide +kernel)) (fun _ _ _ _ _ => (dg_name nd rfl (by first | exact Or.inl rfl | exact Or.inr rfl))) (fun _ _ _ _ _ => dts_nil) (fun _ _ _ _ _ => (cl c_Ulaw_dip bn_Ulaw_dip hr hg (da_cons (de_var (pv 0)) (da_cons (de_var (pv 1)) da_nil)))) (by decide)))))) (ds_cons (ds_par rfl nd rfl rfl (by decide) rfl rfl (da_cons (cl c_Ulaw_dip bn_Ulaw_dip hr hg (da_cons (de_var (pv 0)) (da_cons (de_bin does_add (de_call1 does_len rfl hB.b_len (by decide +kernel) (dp_var (pv 4))) (de_int (i := 1))) da_nil))) (da_cons (de_var (pv 2)) da_nil)) rfl) (ds_cons (ds_for PassesOwn.never rfl (di_seq (de_var (pv 4))) (dg_name nd rfl (by first | exact Or.inl rfl | exact Or.inr rfl)) (ds_one (ds_set nd rfl (by first | exact Or.inl rfl | exact Or.inr rfl) (de_bin does_add (de_bin does_add (de_bin does_mul (de_var (pv 1)) (de_var (pv 6))) (de_var (pv 7))) (de_int (i := 1)))))) (ds_cons (ds_set nd rfl (by first | exact Or.inl rfl | exact Or.inr rfl) (cl c_added bn_added hr hg (da_cons (de_var (pv 1)) (da_cons (cl c_added bn_added hr hg (da_cons (de_var (pv 1)) (da_cons (de_var (pv 2)) (da_cons (de_slN (pv 4) do_none (do_some (de_var (pv 5)))) da_nil)))) (da_cons (de_slN (pv 4) (do_some (de_var (pv 5))) do_none) da_nil))))) (ds_cons (ds_if (dt_w (dw_or (dt_cmp (does_ne hr.units) (de_var (pv 8)) (de_var (pv 6)) rfl) (dw_or1 (dt_cmp (does_ne hr.units) (clK0 c_added kw_added_0_digits_base_stack hr hg (dk_cons (de_var (pv 4)) (dk_cons (de_var (pv 1)) (dk_cons (de_var (pv 2)) dk_nil)))) (de_var (pv 6)) rfl)))) (ds_one (ds_ret (de_bl (b := false)))) ds_nil) (ds_cons (ds_set nd rfl (by first | exact Or.inl rfl | exact Or.inr rfl) (cl c_pop_letters bn_pop_letters hr hg (da_cons (de_var (pv 6)) (da_cons (de_var (pv 3)) da_nil)))) (ds_cons (ds_if (dt_w (dw_or (dt_cmp (does_ne hr.units) (cl c_taken bn_taken hr hg (da_cons (de_var (pv 1)) (da_cons (de_var (pv 6)) (da_cons (de_call1 does_len rfl hB.b_len (by decide +kernel) (dp_var (pv 4))) da_nil)))) (de_tup (da_cons (de_var (pv 4)) (da_cons (de_var (pv 2)) da_nil))) rfl) (dw_or1 (dt_cmp (does_ne hr.units) (de_call1 (does_repr hg (hu100 hr)) rfl hB.b_repr (by decide +kernel) (dp_var (pv 9))) (de_call1 (does_repr hg (hu100 hr)) rfl hB.b_repr (by decide +kernel) (dp_of (cl c_Ulaw_popped bn_Ulaw_popped hr hg (da_cons (de_var (pv 6)) (da_cons (de_var (pv 3)) da_nil))))) rfl)))) (ds_one (ds_ret (de_bl (b := false)))) ds_nil) (ds_one (ds_ret (de_cmp (does_eq hr.units) (cl c_push_letters bn_push_letters hr hg (da_cons (de_ixN (pv 9) (de_int (i := 1)) (fun _ _ => rfl)) (da_cons (de_var (pv 3)) (da_cons (de_ixN (pv 9) (de_int (i := 0)) (fun _ _ => rfl)) da_nil)))) (de_var (pv 6)) rfl)))))))))), rd_Ulaw_is_fed⟩
theorem w_law (T : At K mg "law" (top 68)) (hB : Bs mg) (c_Ulaw_well : Ok P w K mg base "_law_well" (top 54) ["_law_script"] 1 sp_Ulaw_well) (c_Ulaw_row : Ok P w K mg base "_law_row" (top 61) ["_law_well_here"] 4 sp_Ulaw_row) (c_Ulaw_pick : Ok P w K mg base "_law_pick" (top 56) ["_law_well_here", "_law_some"] 2 sp_Ulaw_pick) (c_Ulaw_stack : Ok P w K mg base "_law_stack" (top 58) ["_law_well_here"] 3 sp_Ulaw_stack) (c_push_letters : Ok P w K mg base "push_letters" (top 42) ["stack", "tables", "letters"] 7 sp_push_letters) (c_Ulaw_popped : Ok P w K mg base "_law_popped" (top 62) ["_law_stack_here", "_law_tables"] 1 sp_Ulaw_popped) (c_pop_letters : Ok P w K mg base "pop_letters" (top 43) ["stack", "tables"] 6 sp_pop_letters) (c_lean_of_row : Ok P w K mg base "lean_of_row" (top 44) ["tables", "letters"] 7 sp_lean_of_row) (c_Ulaw_lean : Ok P w K mg base "_law_lean" (top 63) ["_law_tables", "_law_letters"] 1 sp_Ulaw_lean) (c_Ulaw_low : Ok P w K mg base "_law_low" (top 59) ["_law_top", "_law_bottom"] 1 sp_Ulaw_low) (c_Ulaw_is_led : Ok P w K mg base "_law_is_led" (top 64) ["_law_stack_here", "_law_pushed", "_law_four", "_law_lean_here"] 7 sp_Ulaw_is_led) (c_times : Ok P w K mg base "times" (top 19) ["one", "other"] 4 sp_times) (c_chance_of : Ok P w K mg base "chance_of" (top 32) ["table", "letter"] 6 sp_chance_of) (c_Ulaw_is_told : Ok P w K mg base "_law_is_told" (top 66) ["_law_base", "_law_stack_here", "_law_pushed", "_law_lean_here"] 7 sp_Ulaw_is_told) (c_Ulaw_is_fed : Ok P w K mg base "_law_is_fed" (top 67) ["_law_well_here", "_law_base", "_law_pushed", "_law_tables"] 8 sp_Ulaw_is_fed)  : Ok P w K mg base "law" (top 68) ["_law_script"] 9 sp_law :=
  ok_of T sc_law ln_law fun cdv A out s H E hr hg => by
    have nd := (sc_law).nd
    exact ⟨_, show DSs _ _ (R_law sp_Ulaw_well sp_Ulaw_row sp_Ulaw_pick sp_Ulaw_stack sp_push_letters sp_Ulaw_popped sp_pop_letters sp_lean_of_row sp_Ulaw_lean sp_Ulaw_low sp_Ulaw_is_led sp_times sp_chance_of sp_Ulaw_is_told sp_Ulaw_is_fed) from (ds_cons (ds_set nd rfl (by first | exact Or.inl rfl | exact Or.inr rfl) (cl c_Ulaw_well bn_Ulaw_well hr hg (da_cons (de_var (pv 0)) da_nil))) (ds_cons (ds_asg (cl c_Ulaw_row bn_Ulaw_row hr hg (da_cons (de_var (pv 1)) da_nil)) (dg_tup rfl (dgs_cons (dg_name nd rfl (by first | exact Or.inl rfl | exact Or.inr rfl)) (dgs_cons (dg_name nd rfl (by first | exact Or.inl rfl | exact Or.inr rfl)) dgs_nil)))) (ds_cons (ds_par rfl nd rfl rfl (by decide) rfl rfl (da_cons (cl c_Ulaw_stack bn_Ulaw_stack hr hg (da_cons (de_var (pv 1)) da_nil)) (da_cons (cl c_Ulaw_pick bn_Ulaw_pick hr hg (da_cons (de_var (pv 1)) (da_cons (de_df (df_lst (da_cons (de_int (i := 2)) (da_cons (de_int (i := 2)) (da_cons (de_int (i := 3)) (da_cons (de_int (i := 5)) (da_cons (de_int (i := 10)) (da_cons (de_int (i := 16)) (da_cons (de_int (i := 255)) (da_cons (de_int (i := 256)) da_nil)))))))))) da_nil))) da_nil)) rfl) (ds_cons (ds_set nd rfl (by first | exact Or.inl rfl | exact Or.inr rfl) (de_call1 (does_repr hg (hu100 hr)) rfl hB.b_repr (by decide +kernel) (dp_of (de_df (df_lst (da_cons (de_var (pv 2)) (da_cons (de_var (pv 3)) (da_cons (de_var (pv 4)) da_nil)))))))) (ds_cons (ds_set nd rfl (by first | exact Or.inl rfl | exact Or.inr rfl) (cl c_push_letters bn_push_letters hr hg (da_cons (de_var (pv 4)) (da_cons (de_var (pv 2)) (da_cons (de_var (pv 3)) da_nil))))) (ds_cons (ds_if (dt_w (dw_or (dt_tru (dp_of (de_isi rfl hB.b_isinstance (de_var (pv 7)) (pe_tyN rfl hB.b_bool)))) (dw_or (dt_not (dt_tru (dp_of (de_isi rfl hB.b_isinstance (de_var (pv 7)) (pe_tyN rfl hB.b_int))))) (dw_or1 (dt_cmp (does_lt hr.units0) (de_var (pv 7)) (de_int (i := 0)) rfl))))) (ds_one (ds_ret (de_bl (b := false)))) ds_nil) (ds_cons (ds_if (dt_cmp (does_ne hr.units) (cl c_Ulaw_popped bn_Ulaw_popped hr hg (da_cons (de_var (pv 7)) (da_cons (de_var (pv 2)) da_nil))) (de_tup (da_cons (de_var (pv 3)) (da_cons (de_var (pv 4)) da_nil))) rfl) (ds_one (ds_ret (de_bl (b := false)))) ds_nil) (ds_cons (ds_if (dt_cmp (does_ne hr.units) (clK0 c_push_letters kw_push_letters_0_letters_tables_stack hr hg (dk_cons (de_var (pv 3)) (dk_cons (de_var (pv 2)) (dk_cons (de_var (pv 4)) dk_nil)))) (de_var (pv 7)) rfl) (ds_one (ds_ret (de_bl (b := false)))) ds_nil) (ds_cons (ds_set nd rfl (by first | exact Or.inl rfl | exact Or.inr rfl) (de_df (df_lst (da_cons (de_call1 (does_repr hg (hu100 hr)) rfl hB.b_repr (by decide +kernel) (dp_of (cl c_pop_letters bn_pop_letters hr hg (da_cons (de_var (pv 7)) (da_cons (de_var (pv 2)) da_nil))))) (da_cons (de_call1 (does_repr hg (hu100 hr)) rfl hB.b_repr (by decide +kernel) (dp_of (clK0 c_pop_letters kw_pop_letters_0_tables_stack hr hg (dk_cons (de_var (pv 2)) (dk_cons (de_var (pv 7)) dk_nil))))) da_nil))))) (ds_cons (ds_if (dt_cmp (does_ne hr.units) (de_var (pv 8)) (de_bin does_mul (de_df (df_lst (da_cons (de_call1 (does_repr hg (hu100 hr)) rfl hB.b_repr (by decide +kernel) (dp_of (de_tup (da_cons (de_var (pv 3)) (da_cons (de_var (pv 4)) da_nil))))) da_nil))) (de_int (i := 2))) rfl) (ds_one (ds_ret (de_bl (b := false)))) ds_nil) (ds_cons (ds_asg (de_tup (da_cons (cl c_Ulaw_lean bn_Ulaw_lean hr hg (da_cons (de_var (pv 2)) (da_cons (de_var (pv 3)) da_nil))) (da_cons (cl c_lean_of_row bn_lean_of_row hr hg (da_cons (de_var (pv 2)) (da_cons (de_var (pv 3)) da_nil))) da_nil))) (dg_tup rfl (dgs_cons (dg_name nd rfl (by first | exact Or.inl rfl | exact Or.inr rfl)) (dgs_cons (dg_name nd rfl (by first | exact Or.inl rfl | exact Or.inr rfl)) dgs_nil)))) (ds_cons (ds_if (dt_cmp (does_ne hr.units) (de_call1 (does_repr hg (hu100 hr)) rfl hB.b_repr (by decide +kernel) (dp_var (pv 10))) (de_call1 (does_repr hg (hu100 hr)) rfl hB.b_repr (by decide +kernel) (dp_of (de_callT1 does_tuple rfl hB.b_tuple (by decide +kernel) (dp_of (de_df (df_lcV rfl rfl nd (di_seq (de_slN (pv 9) do_none (do_some (de_int (i := 3))))) (blkOk_by (own := [("_law_part", 14)]) (N := ["_law_script", "_law_well_here", "_law_tables", "_law_letters", "_law_stack_here", "_law_base", "_law_was", "_law_pushed", "_law_back", "_law_four", "_law_lean_here", "_law_chance", "_law_table", "_law_x", "_law_part"]) (sc := defScope (top 68)) (by decide +kernel)) (fun _ _ _ _ _ => (dg_name nd rfl (by first | exact Or.inl rfl | exact Or.inr rfl))) (fun _ _ _ _ _ => dts_nil) (fun _ _ _ _ _ => (cl c_Ulaw_low bn_Ulaw_low hr hg (da_cons (de_var (pv 14)) (da_cons (de_ixN (pv 9) (de_int (i := 3)) (fun _ _ => rfl)) da_nil)))) (by decide))))))) rfl) (ds_one (ds_ret (de_bl (b := false)))) ds_nil) (ds_cons (ds_if (dt_cmp (does_ne hr.units) (de_call1 (does_repr hg (hu100 hr)) rfl hB.b_repr (by decide +kernel) (dp_of (clK0 c_lean_of_row kw_lean_of_row_0_letters_tables hr hg (dk_cons (de_var (pv 3)) (dk_cons (de_var (pv 2)) dk_nil))))) (de_call1 (does_repr hg (hu100 hr)) rfl hB.b_repr (by decide +kernel) (dp_var (pv 10))) rfl) (ds_one (ds_ret (de_bl (b := false)))) ds_nil) (ds_cons (ds_if (dt_not (dt_tru (dp_of (cl c_Ulaw_is_led bn_Ulaw_is_led hr hg (da_cons (de_var (pv 4)) (da_cons (de_var (pv 7)) (da_cons (de_var (pv 9)) (da_cons (de_var (pv 10)) da_nil)))))))) (ds_one (ds_ret (de_bl (b := false)))) ds_nil) (ds_cons (ds_set nd rfl (by first | exact Or.inl rfl | exact Or.inr rfl) (de_tup (da_cons (de_int (i := 1)) (da_cons (de_int (i := 1)) da_nil)))) (ds_cons (ds_for PassesOwn.never rfl (di_zip rfl hB.b_zip (da_cons (de_var (pv 2)) (da_cons (de_var (pv 3)) da_nil))) (dg_tup rfl (dgs_cons (dg_name nd rfl (by first | exact Or.inl rfl | exact Or.inr rfl)) (dgs_cons (dg_name nd rfl (by first | exact Or.inl rfl | exact Or.inr rfl)) dgs_nil))) (ds_one (ds_set nd rfl (by first | exact Or.inl rfl | exact Or.inr rfl) (cl c_times bn_times hr hg (da_cons (de_var (pv 11)) (da_cons (cl c_chance_of bn_chance_of hr hg (da_cons (de_var (pv 12)) (da_cons (de_var (pv 13)) da_nil))) da_nil)))))) (ds_cons (ds_if (dt_cmp (does_ne hr.units) (de_call1 (does_repr hg (hu100 hr)) rfl hB.b_repr (by decide +kernel) (dp_of (de_df (df_lst (da_cons (de_var (pv 11)) (da_cons (cl c_times bn_times hr hg (da_cons (de_var (pv 11)) (da_cons (de_ixN (pv 10) (de_int (i := 0)) (fun _ _ => rfl)) da_nil))) da_nil)))))) (de_call1 (does_repr hg (hu100 hr)) rfl hB.b_repr (by decide +kernel) (dp_of (de_df (df_lst (da_cons (cl c_Ulaw_low bn_Ulaw_low hr hg (da_cons (de_ixN (pv 9) (de_int (i := 3)) (fun _ _ => rfl)) (da_cons (de_ixN (pv 9) (de_int (i := 0)) (fun _ _ => rfl)) da_nil))) (da_cons (de_tup (da_cons (de_int (i := 1)) (da_cons (de_int (i := 1)) da_nil))) da_nil)))))) rfl) (ds_one (ds_ret (de_bl (b := false)))) ds_nil) (ds_cons (ds_if (dt_w (dw_or (dt_not (dt_tru (dp_of (cl c_Ulaw_is_told bn_Ulaw_is_told hr hg (da_cons (de_var (pv 5)) (da_cons (de_var (pv 4)) (da_cons (de_var (pv 7)) (da_cons (de_var (pv 10)) da_nil)))))))) (dw_or1 (dt_not (dt_tru (dp_of (cl c_Ulaw_is_fed bn_Ulaw_is_fed hr hg (da_cons (de_var (pv 1)) (da_cons (de_var (pv 5)) (da_cons (de_var (pv 7)) (da_cons (de_var (pv 2)) da_nil))))))))))) (ds_one (ds_ret (de_bl (b := false)))) ds_nil) (ds_one (ds_ret (de_and (de_cmp (does_eq hr.units) (de_call1 (does_repr hg (hu100 hr)) rfl hB.b_repr (by decide +kernel) (dp_of (de_df (df_lst (da_cons (de_var (pv 2)) (da_cons (de_var (pv 3)) (da_cons (de_var (pv 4)) da_nil))))))) (de_var (pv 6)) rfl) (de_one (de_cmp (does_eq hr.units) (de_call1 (does_repr hg (hu100 hr)) rfl hB.b_repr (by decide +kernel) (dp_of (cl c_lean_of_row bn_lean_of_row hr hg (da_cons (de_tup da_nil) (da_cons (de_tup da_nil) da_nil))))) (de_call1 (does_repr hg (hu100 hr)) rfl hB.b_repr (by decide +kernel) (dp_of (de_tup (da_cons (de_tup (da_cons (de_int (i := 1)) (da_cons (de_int (i := 1)) da_nil))) (da_cons (de_tup (da_cons (de_int (i := 0)) (da_cons (de_int (i := 1)) da_nil))) (da_cons (de_tup (da_cons (de_int (i := 0)) (da_cons (de_int (i := 1)) da_nil))) da_nil)))))) rfl))))))))))))))))))))))), rd_law⟩
end
end DL

/-! part K48H -/
namespace DL
namespace Hd
open PySem PySem.Spec PyProof.Rows L2
abbrev R : PySem.W.OpenRow := PySem.W.OpenLaw.row PySem.Challenge.rw_pushedback_k48_whole_digits_of_pushed_ro
def d_a_want : He.DefD := ⟨("a_want", none), "a_want", "a_want", defArgs (top 6), defBody (top 6), defScope (top 6), [], []⟩
def d_is_integer : He.DefD := ⟨("is_integer", none), "is_integer", "is_integer", defArgs (top 8), defBody (top 8), defScope (top 8), [], []⟩
def d_is_number : He.DefD := ⟨("is_number", none), "is_number", "is_number", defArgs (top 9), defBody (top 9), defScope (top 9), [], []⟩
def d_is_base : He.DefD := ⟨("is_base", none), "is_base", "is_base", defArgs (top 10), defBody (top 10), defScope (top 10), [], []⟩
def d_is_quotient : He.DefD := ⟨("is_quotient", none), "is_quotient", "is_quotient", defArgs (top 11), defBody (top 11), defScope (top 11), [], []⟩
def d_a_is_numbers : He.DefD := ⟨("a_is_numbers", none), "a_is_numbers", "a_is_numbers", defArgs (top 12), defBody (top 12), defScope (top 12), [], []⟩
def d_is_digits : He.DefD := ⟨("is_digits", none), "is_digits", "is_digits", defArgs (top 13), defBody (top 13), defScope (top 13), [], []⟩
def d_a_lowest : He.DefD := ⟨("a_lowest", none), "a_lowest", "a_lowest", defArgs (top 15), defBody (top 15), defScope (top 15), [], []⟩
def d_Uwant_both : He.DefD := ⟨("_want_both", none), "_want_both", "_want_both", defArgs (top 16), defBody (top 16), defScope (top 16), [], []⟩
def d_plus : He.DefD := ⟨("plus", none), "plus", "plus", defArgs (top 17), defBody (top 17), defScope (top 17), [], []⟩
def d_minus : He.DefD := ⟨("minus", none), "minus", "minus", defArgs (top 18), defBody (top 18), defScope (top 18), [], []⟩
def d_times : He.DefD := ⟨("times", none), "times", "times", defArgs (top 19), defBody (top 19), defScope (top 19), [], []⟩
def d_over : He.DefD := ⟨("over", none), "over", "over", defArgs (top 20), defBody (top 20), defScope (top 20), [], []⟩
def d_compare : He.DefD := ⟨("compare", none), "compare", "compare", defArgs (top 21), defBody (top 21), defScope (top 21), [], []⟩
def d_Unumbers : He.DefD := ⟨("_numbers", none), "_numbers", "_numbers", defArgs (top 23), defBody (top 23), defScope (top 23), [], []⟩
def d_is_table : He.DefD := ⟨("is_table", none), "is_table", "is_table", defArgs (top 24), defBody (top 24), defScope (top 24), [], []⟩
def d_b_stands : He.DefD := ⟨("b_stands", none), "b_stands", "b_stands", defArgs (top 25), defBody (top 25), defScope (top 25), [], []⟩
def d_b_table_letter : He.DefD := ⟨("b_table_letter", none), "b_table_letter", "b_table_letter", defArgs (top 26), defBody (top 26), defScope (top 26), [], []⟩
def d_b_are_tables : He.DefD := ⟨("b_are_tables", none), "b_are_tables", "b_are_tables", defArgs (top 27), defBody (top 27), defScope (top 27), [], []⟩
def d_b_fit : He.DefD := ⟨("b_fit", none), "b_fit", "b_fit", defArgs (top 28), defBody (top 28), defScope (top 28), [], []⟩
def d_b_tables_letters : He.DefD := ⟨("b_tables_letters", none), "b_tables_letters", "b_tables_letters", defArgs (top 29), defBody (top 29), defScope (top 29), [], []⟩
def d_chance_of : He.DefD := ⟨("chance_of", none), "chance_of", "chance_of", defArgs (top 32), defBody (top 32), defScope (top 32), [], []⟩
def d_is_lean : He.DefD := ⟨("is_lean", none), "is_lean", "is_lean", defArgs (top 33), defBody (top 33), defScope (top 33), [], []⟩
def d_lean_after : He.DefD := ⟨("lean_after", none), "lean_after", "lean_after", defArgs (top 34), defBody (top 34), defScope (top 34), [], []⟩
def d_lean_back : He.DefD := ⟨("lean_back", none), "lean_back", "lean_back", defArgs (top 35), defBody (top 35), defScope (top 35), [], []⟩
def d_lean_holds : He.DefD := ⟨("lean_holds", none), "lean_holds", "lean_holds", defArgs (top 36), defBody (top 36), defScope (top 36), [], []⟩
def d_b_lean_by : He.DefD := ⟨("b_lean_by", none), "b_lean_by", "b_lean_by", defArgs (top 37), defBody (top 37), defScope (top 37), [], []⟩
def d_push_by : He.DefD := ⟨("push_by", none), "push_by", "push_by", defArgs (top 39), defBody (top 39), defScope (top 39), [], []⟩
def d_pop_by : He.DefD := ⟨("pop_by", none), "pop_by", "pop_by", defArgs (top 40), defBody (top 40), defScope (top 40), [], []⟩
def d_push_letters : He.DefD := ⟨("push_letters", none), "push_letters", "push_letters", defArgs (top 42), defBody (top 42), defScope (top 42), [], []⟩
def d_pop_letters : He.DefD := ⟨("pop_letters", none), "pop_letters", "pop_letters", defArgs (top 43), defBody (top 43), defScope (top 43), [], []⟩
def d_lean_of_row : He.DefD := ⟨("lean_of_row", none), "lean_of_row", "lean_of_row", defArgs (top 44), defBody (top 44), defScope (top 44), [], []⟩
def d_row_of : He.DefD := ⟨("row_of", none), "row_of", "row_of", defArgs (top 46), defBody (top 46), defScope (top 46), [], []⟩
def d_stack_of : He.DefD := ⟨("stack_of", none), "stack_of", "stack_of", defArgs (top 47), defBody (top 47), defScope (top 47), [], []⟩
def d_added : He.DefD := ⟨("added", none), "added", "added", defArgs (top 48), defBody (top 48), defScope (top 48), [], []⟩
def d_taken : He.DefD := ⟨("taken", none), "taken", "taken", defArgs (top 49), defBody (top 49), defScope (top 49), [], []⟩
def d_places_of : He.DefD := ⟨("places_of", none), "places_of", "places_of", defArgs (top 51), defBody (top 51), defScope (top 51), [], []⟩
def d_reach_of : He.DefD := ⟨("reach_of", none), "reach_of", "reach_of", defArgs (top 52), defBody (top 52), defScope (top 52), [], []⟩
def d_Ulaw_well : He.DefD := ⟨("_law_well", none), "_law_well", "_law_well", defArgs (top 54), defBody (top 54), defScope (top 54), [], []⟩
def d_Ulaw_dip : He.DefD := ⟨("_law_dip", none), "_law_dip", "_law_dip", defArgs (top 55), defBody (top 55), defScope (top 55), [], []⟩
def d_Ulaw_pick : He.DefD := ⟨("_law_pick", none), "_law_pick", "_law_pick", defArgs (top 56), defBody (top 56), defScope (top 56), [], []⟩
def d_Ulaw_great : He.DefD := ⟨("_law_great", none), "_law_great", "_law_great", defArgs (top 57), defBody (top 57), defScope (top 57), [], []⟩
def d_Ulaw_stack : He.DefD := ⟨("_law_stack", none), "_law_stack", "_law_stack", defArgs (top 58), defBody (top 58), defScope (top 58), [], []⟩
def d_Ulaw_low : He.DefD := ⟨("_law_low", none), "_law_low", "_law_low", defArgs (top 59), defBody (top 59), defScope (top 59), [], []⟩
def d_Ulaw_counts : He.DefD := ⟨("_law_counts", none), "_law_counts", "_law_counts", defArgs (top 60), defBody (top 60), defScope (top 60), [], []⟩
def d_Ulaw_row : He.DefD := ⟨("_law_row", none), "_law_row", "_law_row", defArgs (top 61), defBody (top 61), defScope (top 61), [], []⟩
def d_Ulaw_popped : He.DefD := ⟨("_law_popped", none), "_law_popped", "_law_popped", defArgs (top 62), defBody (top 62), defScope (top 62), [], []⟩
def d_Ulaw_lean : He.DefD := ⟨("_law_lean", none), "_law_lean", "_law_lean", defArgs (top 63), defBody (top 63), defScope (top 63), [], []⟩
def d_Ulaw_is_led : He.DefD := ⟨("_law_is_led", none), "_law_is_led", "_law_is_led", defArgs (top 64), defBody (top 64), defScope (top 64), [], []⟩
def d_Ulaw_is_long : He.DefD := ⟨("_law_is_long", none), "_law_is_long", "_law_is_long", defArgs (top 65), defBody (top 65), defScope (top 65), [], []⟩
def d_Ulaw_is_told : He.DefD := ⟨("_law_is_told", none), "_law_is_told", "_law_is_told", defArgs (top 66), defBody (top 66), defScope (top 66), [], []⟩
def d_Ulaw_is_fed : He.DefD := ⟨("_law_is_fed", none), "_law_is_fed", "_law_is_fed", defArgs (top 67), defBody (top 67), defScope (top 67), [], []⟩
def d_law : He.DefD := ⟨("law", none), "law", "law", defArgs (top 68), defBody (top 68), defScope (top 68), [], []⟩
def fn0 : List He.DefD := [d_a_want, d_is_integer, d_is_number, d_is_base, d_is_quotient, d_a_is_numbers, d_is_digits, d_a_lowest, d_Uwant_both, d_plus, d_minus, d_times, d_over, d_compare, d_Unumbers, d_is_table, d_b_stands, d_b_table_letter, d_b_are_tables, d_b_fit, d_b_tables_letters, d_chance_of, d_is_lean, d_lean_after, d_lean_back, d_lean_holds, d_b_lean_by, d_push_by, d_pop_by, d_push_letters]
def fn1 : List He.DefD := [d_pop_letters, d_lean_of_row, d_row_of, d_stack_of, d_added, d_taken, d_places_of, d_reach_of, d_Ulaw_well, d_Ulaw_dip, d_Ulaw_pick, d_Ulaw_great, d_Ulaw_stack, d_Ulaw_low, d_Ulaw_counts, d_Ulaw_row, d_Ulaw_popped, d_Ulaw_lean, d_Ulaw_is_led, d_Ulaw_is_long, d_Ulaw_is_told, d_Ulaw_is_fed, d_law]
def fn : List He.DefD := fn0 ++ fn1
def fa0 : List He.Fa := [.glo "a_want", .glo "is_integer", .glo "is_number", .glo "is_base", .glo "is_quotient", .glo "a_is_numbers", .glo "is_digits", .glo "a_lowest", .glo "_want_both", .glo "plus", .glo "minus", .glo "times", .glo "over", .glo "compare", .glo "_numbers", .glo "is_table", .glo "b_stands", .glo "b_table_letter", .glo "b_are_tables", .glo "b_fit", .glo "b_tables_letters", .glo "chance_of", .glo "is_lean", .glo "lean_after", .glo "lean_back", .glo "lean_holds", .glo "b_lean_by", .glo "push_by", .glo "pop_by", .glo "push_letters"]
def fa1 : List He.Fa := [.glo "pop_letters", .glo "lean_of_row", .glo "row_of", .glo "stack_of", .glo "added", .glo "taken", .glo "places_of", .glo "reach_of", .glo "_law_well", .glo "_law_dip", .glo "_law_pick", .glo "_law_great", .glo "_law_stack", .glo "_law_low", .glo "_law_counts", .glo "_law_row", .glo "_law_popped", .glo "_law_lean", .glo "_law_is_led", .glo "_law_is_long", .glo "_law_is_told", .glo "_law_is_fed", .glo "law", .free "isinstance", .free "int", .free "bool", .free "tuple", .free "len", .free "all", .free "sum"]
def fa2 : List He.Fa := [.free "zip", .free "divmod", .free "reversed", .free "range", .free "abs", .free "list", .free "min", .free "max", .free "repr", .glo "NOUGHT"]
def fa : List He.Fa := fa0 ++ fa1 ++ fa2
def lo0 : List PySem.Str := ["PushError", "StackError", "NotUsable", "a_want", "is_integer", "is_number", "is_base", "is_quotient", "a_is_numbers", "is_digits", "a_lowest", "_want_both", "plus", "minus", "times", "over", "compare", "_numbers", "is_table", "b_stands", "b_table_letter", "b_are_tables", "b_fit", "b_tables_letters", "NOUGHT", "chance_of", "is_lean", "lean_after", "lean_back", "lean_holds"]
def lo1 : List PySem.Str := ["b_lean_by", "push_by", "pop_by", "push_letters", "pop_letters", "lean_of_row", "row_of", "stack_of", "added", "taken", "places_of", "reach_of", "_law_well", "_law_dip", "_law_pick", "_law_great", "_law_stack", "_law_low", "_law_counts", "_law_row", "_law_popped", "_law_lean", "_law_is_led", "_law_is_long", "_law_is_told", "_law_is_fed", "__name__"]
def lo : List PySem.Str := lo0 ++ lo1
def xB (K : PySem.W.Frag) : Bool := (He.eqO (PySem.W.nsIn K mainGlobals "gcd") (some (some (.builtin "math.gcd")))) && (He.tupB K "NOUGHT" [.int 0, .int 1])
def obG (g : Addr → Option Obj) : He.AlD × Bool := (He.obsD fa fn (He.frG g (He.asD g 4)), xB (He.frG g (He.asD g 4)))
def hk : PySem.W.Hook where
  α := He.AlD × Bool
  obs := fun s => obG s.heap.get?
  val := fun _ => (He.valD fn, true)
  says := fun _ h => ∃ K : PySem.W.Frag, K.In h ∧ He.SaysD fa fn K ∧ xB K = true
  of := fun _ _ e => ⟨_, He.frG_in, congrArg Prod.fst e, congrArg Prod.snd e⟩
  keeps := fun _ _ _ ⟨K, hK, c⟩ k => ⟨K, PySem.W.Frag.In.keeps hK k, c⟩
def ob (s : PySem.W.SharedT) : He.AlD × Bool := obG (HandSHeadRun.getT s)
theorem ob_eq (s : PySem.W.SharedT) : ob s = hk.obs s.abs := by
  have e : HandSHeadRun.getT s = s.abs.heap.get? := funext (HandSHeadRun.getT_eq s)
  show obG (HandSHeadRun.getT s) = obG s.abs.heap.get?
  rw [e]
theorem run (w : World) : HandSHeadRun.RunEqI R (PySem.W.view R.prog [0, 68]) hk ob 8000 lo w := by
  unfold HandSHeadRun.RunEqI
  kernel_rfl
theorem fun_uniq {K : PySem.W.Frag} {x q : PySem.Str} {pr : Arguments} {bd : List Stmt} {sc : Scope} {f : Addr} {fd fd2 : FuncData} (F : FunD K x q pr bd sc [] [] f fd) (F2 : FunD K x q pr bd sc [] [] f fd2) : fd = fd2 := by
  obtain ⟨oc, od, dV, kV, doc, pm, an, cdv, ct, osl, rfl, lk, _⟩ := F.ex
  obtain ⟨oc2, od2, dV2, kV2, doc2, pm2, an2, cdv2, ct2, osl2, rfl, lk2, _⟩ := F2.ex
  rw [lk] at lk2
  injection lk2 with e
  injection e with _ _ e _
  injection e with e
section
variable {w : World} {K : PySem.W.Frag} {h base : Heap} {mg : PySem.Str → Option Value}
theorem bs (X : K.In h) (G : h.Ns mainGlobals mg) (c : He.SaysD fa fn K) (cx : xB K = true) : Bs mg := by
  exact ⟨He.free_ok X G (c.fact 53 (f := .free "isinstance") rfl),
    He.free_ok X G (c.fact 54 (f := .free "int") rfl),
    He.free_ok X G (c.fact 55 (f := .free "bool") rfl),
    He.free_ok X G (c.fact 56 (f := .free "tuple") rfl),
    He.free_ok X G (c.fact 57 (f := .free "len") rfl),
    PySem.W.mg_of X G (He.eqO_ok (show He.eqO (PySem.W.nsIn K mainGlobals "gcd") (some (some (.builtin "math.gcd"))) = true from (He.ba cx).1)),
    He.free_ok X G (c.fact 58 (f := .free "all") rfl),
    He.free_ok X G (c.fact 59 (f := .free "sum") rfl),
    He.free_ok X G (c.fact 60 (f := .free "zip") rfl),
    He.free_ok X G (c.fact 61 (f := .free "divmod") rfl),
    He.free_ok X G (c.fact 62 (f := .free "reversed") rfl),
    He.free_ok X G (c.fact 63 (f := .free "range") rfl),
    He.free_ok X G (c.fact 64 (f := .free "abs") rfl),
    He.free_ok X G (c.fact 65 (f := .free "list") rfl),
    He.free_ok X G (c.fact 66 (f := .free "min") rfl),
    He.free_ok X G (c.fact 67 (f := .free "max") rfl),
    He.free_ok X G (c.fact 68 (f := .free "repr") rfl)⟩
theorem g_NOUGHT (X : K.In h) (G : h.Ns mainGlobals mg) (c : He.SaysD fa fn K) (cx : xB K = true) : Gd K mg "NOUGHT" d_NOUGHT :=
  ⟨.ref (He.ga K "NOUGHT"), .ref (He.ga K "NOUGHT"), He.glo_ok X G (c.fact 69 (f := .glo "NOUGHT") rfl), rfl, fun H => .tup (He.tupB_ok (show He.tupB K "NOUGHT" [.int 0, .int 1] = true from (He.ba cx).2) H) (.cons (.int 0) (.cons (.int 1) .nil))⟩
theorem all (X : K.In h) (G : h.Ns mainGlobals mg) (c : He.SaysD fa fn K) (cx : xB K = true) : Ok R.prog w K mg base "law" (top 68) ["_law_script"] 9 sp_law := by
  have hB := bs X G c cx
  have z_NOUGHT := g_NOUGHT X G c cx
  have c_a_want := w_a_want (P := R.prog) (w := w) (base := base) (⟨He.glo_ok X G (c.fact 0 (f := .glo "a_want") rfl), c.def_ 0 (d := d_a_want) rfl⟩ : At K mg "a_want" (top 6))
  have c_is_integer := w_is_integer (P := R.prog) (w := w) (base := base) (⟨He.glo_ok X G (c.fact 1 (f := .glo "is_integer") rfl), c.def_ 1 (d := d_is_integer) rfl⟩ : At K mg "is_integer" (top 8)) hB
  have c_a_lowest := w_a_lowest (P := R.prog) (w := w) (base := base) (⟨He.glo_ok X G (c.fact 7 (f := .glo "a_lowest") rfl), c.def_ 7 (d := d_a_lowest) rfl⟩ : At K mg "a_lowest" (top 15)) hB
  have c_Ulaw_well := w_Ulaw_well (P := R.prog) (w := w) (base := base) (⟨He.glo_ok X G (c.fact 38 (f := .glo "_law_well") rfl), c.def_ 38 (d := d_Ulaw_well) rfl⟩ : At K mg "_law_well" (top 54)) hB
  have c_Ulaw_dip := w_Ulaw_dip (P := R.prog) (w := w) (base := base) (⟨He.glo_ok X G (c.fact 39 (f := .glo "_law_dip") rfl), c.def_ 39 (d := d_Ulaw_dip) rfl⟩ : At K mg "_law_dip" (top 55)) hB
  have c_Ulaw_low := w_Ulaw_low (P := R.prog) (w := w) (base := base) (⟨He.glo_ok X G (c.fact 43 (f := .glo "_law_low") rfl), c.def_ 43 (d := d_Ulaw_low) rfl⟩ : At K mg "_law_low" (top 59)) hB
  have c_Ulaw_popped := w_Ulaw_popped (P := R.prog) (w := w) (base := base) (⟨He.glo_ok X G (c.fact 46 (f := .glo "_law_popped") rfl), c.def_ 46 (d := d_Ulaw_popped) rfl⟩ : At K mg "_law_popped" (top 62)) hB
  have c_Ulaw_lean := w_Ulaw_lean (P := R.prog) (w := w) (base := base) (⟨He.glo_ok X G (c.fact 47 (f := .glo "_law_lean") rfl), c.def_ 47 (d := d_Ulaw_lean) rfl⟩ : At K mg "_law_lean" (top 63)) hB
  have c_Ulaw_is_long := w_Ulaw_is_long (P := R.prog) (w := w) (base := base) (⟨He.glo_ok X G (c.fact 49 (f := .glo "_law_is_long") rfl), c.def_ 49 (d := d_Ulaw_is_long) rfl⟩ : At K mg "_law_is_long" (top 65)) hB
  have c_is_number := w_is_number (P := R.prog) (w := w) (base := base) (⟨He.glo_ok X G (c.fact 2 (f := .glo "is_number") rfl), c.def_ 2 (d := d_is_number) rfl⟩ : At K mg "is_number" (top 9)) c_is_integer
  have c_is_base := w_is_base (P := R.prog) (w := w) (base := base) (⟨He.glo_ok X G (c.fact 3 (f := .glo "is_base") rfl), c.def_ 3 (d := d_is_base) rfl⟩ : At K mg "is_base" (top 10)) c_is_integer
  have c_is_quotient := w_is_quotient (P := R.prog) (w := w) (base := base) (⟨He.glo_ok X G (c.fact 4 (f := .glo "is_quotient") rfl), c.def_ 4 (d := d_is_quotient) rfl⟩ : At K mg "is_quotient" (top 11)) hB c_is_integer
  have c_Ulaw_pick := w_Ulaw_pick (P := R.prog) (w := w) (base := base) (⟨He.glo_ok X G (c.fact 40 (f := .glo "_law_pick") rfl), c.def_ 40 (d := d_Ulaw_pick) rfl⟩ : At K mg "_law_pick" (top 56)) hB c_Ulaw_dip
  have c_Ulaw_great := w_Ulaw_great (P := R.prog) (w := w) (base := base) (⟨He.glo_ok X G (c.fact 41 (f := .glo "_law_great") rfl), c.def_ 41 (d := d_Ulaw_great) rfl⟩ : At K mg "_law_great" (top 57)) hB c_Ulaw_dip
  have c_a_is_numbers := w_a_is_numbers (P := R.prog) (w := w) (base := base) (⟨He.glo_ok X G (c.fact 5 (f := .glo "a_is_numbers") rfl), c.def_ 5 (d := d_a_is_numbers) rfl⟩ : At K mg "a_is_numbers" (top 12)) hB c_is_number
  have c_Uwant_both := w_Uwant_both (P := R.prog) (w := w) (base := base) (⟨He.glo_ok X G (c.fact 8 (f := .glo "_want_both") rfl), c.def_ 8 (d := d_Uwant_both) rfl⟩ : At K mg "_want_both" (top 16)) c_a_want c_is_quotient
  have c_Unumbers := w_Unumbers (P := R.prog) (w := w) (base := base) (⟨He.glo_ok X G (c.fact 14 (f := .glo "_numbers") rfl), c.def_ 14 (d := d_Unumbers) rfl⟩ : At K mg "_numbers" (top 23)) hB c_is_number
  have c_b_stands := w_b_stands (P := R.prog) (w := w) (base := base) (⟨He.glo_ok X G (c.fact 16 (f := .glo "b_stands") rfl), c.def_ 16 (d := d_b_stands) rfl⟩ : At K mg "b_stands" (top 25)) hB c_is_number
  have c_row_of := w_row_of (P := R.prog) (w := w) (base := base) (⟨He.glo_ok X G (c.fact 32 (f := .glo "row_of") rfl), c.def_ 32 (d := d_row_of) rfl⟩ : At K mg "row_of" (top 46)) hB c_a_want c_is_base c_is_number
  have c_taken := w_taken (P := R.prog) (w := w) (base := base) (⟨He.glo_ok X G (c.fact 35 (f := .glo "taken") rfl), c.def_ 35 (d := d_taken) rfl⟩ : At K mg "taken" (top 49)) hB c_a_want c_is_base c_is_number
  have c_places_of := w_places_of (P := R.prog) (w := w) (base := base) (⟨He.glo_ok X G (c.fact 36 (f := .glo "places_of") rfl), c.def_ 36 (d := d_places_of) rfl⟩ : At K mg "places_of" (top 51)) c_a_want c_is_base c_is_number
  have c_reach_of := w_reach_of (P := R.prog) (w := w) (base := base) (⟨He.glo_ok X G (c.fact 37 (f := .glo "reach_of") rfl), c.def_ 37 (d := d_reach_of) rfl⟩ : At K mg "reach_of" (top 52)) c_a_want c_is_base c_is_quotient
  have c_Ulaw_stack := w_Ulaw_stack (P := R.prog) (w := w) (base := base) (⟨He.glo_ok X G (c.fact 42 (f := .glo "_law_stack") rfl), c.def_ 42 (d := d_Ulaw_stack) rfl⟩ : At K mg "_law_stack" (top 58)) c_Ulaw_dip c_Ulaw_great c_Ulaw_pick
  have c_Ulaw_counts := w_Ulaw_counts (P := R.prog) (w := w) (base := base) (⟨He.glo_ok X G (c.fact 44 (f := .glo "_law_counts") rfl), c.def_ 44 (d := d_Ulaw_counts) rfl⟩ : At K mg "_law_counts" (top 60)) hB c_Ulaw_pick c_Ulaw_dip
  have c_is_digits := w_is_digits (P := R.prog) (w := w) (base := base) (⟨He.glo_ok X G (c.fact 6 (f := .glo "is_digits") rfl), c.def_ 6 (d := d_is_digits) rfl⟩ : At K mg "is_digits" (top 13)) hB c_a_want c_is_base c_a_is_numbers
  have c_plus := w_plus (P := R.prog) (w := w) (base := base) (⟨He.glo_ok X G (c.fact 9 (f := .glo "plus") rfl), c.def_ 9 (d := d_plus) rfl⟩ : At K mg "plus" (top 17)) c_Uwant_both c_a_lowest
  have c_minus := w_minus (P := R.prog) (w := w) (base := base) (⟨He.glo_ok X G (c.fact 10 (f := .glo "minus") rfl), c.def_ 10 (d := d_minus) rfl⟩ : At K mg "minus" (top 18)) c_Uwant_both c_a_lowest
  have c_times := w_times (P := R.prog) (w := w) (base := base) (⟨He.glo_ok X G (c.fact 11 (f := .glo "times") rfl), c.def_ 11 (d := d_times) rfl⟩ : At K mg "times" (top 19)) c_Uwant_both c_a_lowest
  have c_over := w_over (P := R.prog) (w := w) (base := base) (⟨He.glo_ok X G (c.fact 12 (f := .glo "over") rfl), c.def_ 12 (d := d_over) rfl⟩ : At K mg "over" (top 20)) c_Uwant_both c_a_want c_a_lowest
  have c_compare := w_compare (P := R.prog) (w := w) (base := base) (⟨He.glo_ok X G (c.fact 13 (f := .glo "compare") rfl), c.def_ 13 (d := d_compare) rfl⟩ : At K mg "compare" (top 21)) c_Uwant_both
  have c_is_table := w_is_table (P := R.prog) (w := w) (base := base) (⟨He.glo_ok X G (c.fact 15 (f := .glo "is_table") rfl), c.def_ 15 (d := d_is_table) rfl⟩ : At K mg "is_table" (top 24)) hB c_Unumbers
  have c_b_fit := w_b_fit (P := R.prog) (w := w) (base := base) (⟨He.glo_ok X G (c.fact 19 (f := .glo "b_fit") rfl), c.def_ 19 (d := d_b_fit) rfl⟩ : At K mg "b_fit" (top 28)) hB c_b_stands
  have c_Ulaw_row := w_Ulaw_row (P := R.prog) (w := w) (base := base) (⟨He.glo_ok X G (c.fact 45 (f := .glo "_law_row") rfl), c.def_ 45 (d := d_Ulaw_row) rfl⟩ : At K mg "_law_row" (top 61)) hB c_Ulaw_pick c_Ulaw_counts c_Ulaw_dip
  have c_b_table_letter := w_b_table_letter (P := R.prog) (w := w) (base := base) (⟨He.glo_ok X G (c.fact 17 (f := .glo "b_table_letter") rfl), c.def_ 17 (d := d_b_table_letter) rfl⟩ : At K mg "b_table_letter" (top 26)) c_a_want c_is_table c_b_stands
  have c_b_are_tables := w_b_are_tables (P := R.prog) (w := w) (base := base) (⟨He.glo_ok X G (c.fact 18 (f := .glo "b_are_tables") rfl), c.def_ 18 (d := d_b_are_tables) rfl⟩ : At K mg "b_are_tables" (top 27)) hB c_is_table
  have c_is_lean := w_is_lean (P := R.prog) (w := w) (base := base) (⟨He.glo_ok X G (c.fact 22 (f := .glo "is_lean") rfl), c.def_ 22 (d := d_is_lean) rfl⟩ : At K mg "is_lean" (top 33)) hB c_is_quotient c_compare
  have c_b_lean_by := w_b_lean_by (P := R.prog) (w := w) (base := base) (⟨He.glo_ok X G (c.fact 26 (f := .glo "b_lean_by") rfl), c.def_ 26 (d := d_b_lean_by) rfl⟩ : At K mg "b_lean_by" (top 37)) hB c_over c_minus
  have c_pop_by := w_pop_by (P := R.prog) (w := w) (base := base) (⟨He.glo_ok X G (c.fact 28 (f := .glo "pop_by") rfl), c.def_ 28 (d := d_pop_by) rfl⟩ : At K mg "pop_by" (top 40)) hB c_a_want c_is_number c_is_table
  have c_added := w_added (P := R.prog) (w := w) (base := base) (⟨He.glo_ok X G (c.fact 34 (f := .glo "added") rfl), c.def_ 34 (d := d_added) rfl⟩ : At K mg "added" (top 48)) c_a_want c_is_base c_is_number c_is_digits
  have c_b_tables_letters := w_b_tables_letters (P := R.prog) (w := w) (base := base) (⟨He.glo_ok X G (c.fact 20 (f := .glo "b_tables_letters") rfl), c.def_ 20 (d := d_b_tables_letters) rfl⟩ : At K mg "b_tables_letters" (top 29)) c_a_want c_b_are_tables c_b_fit
  have c_chance_of := w_chance_of (P := R.prog) (w := w) (base := base) (⟨He.glo_ok X G (c.fact 21 (f := .glo "chance_of") rfl), c.def_ 21 (d := d_chance_of) rfl⟩ : At K mg "chance_of" (top 32)) hB c_b_table_letter c_over
  have c_lean_after := w_lean_after (P := R.prog) (w := w) (base := base) (⟨He.glo_ok X G (c.fact 23 (f := .glo "lean_after") rfl), c.def_ 23 (d := d_lean_after) rfl⟩ : At K mg "lean_after" (top 34)) c_a_want c_is_lean c_plus c_times
  have c_lean_back := w_lean_back (P := R.prog) (w := w) (base := base) (⟨He.glo_ok X G (c.fact 24 (f := .glo "lean_back") rfl), c.def_ 24 (d := d_lean_back) rfl⟩ : At K mg "lean_back" (top 35)) c_a_want c_is_lean c_over c_minus z_NOUGHT
  have c_lean_holds := w_lean_holds (P := R.prog) (w := w) (base := base) (⟨He.glo_ok X G (c.fact 25 (f := .glo "lean_holds") rfl), c.def_ 25 (d := d_lean_holds) rfl⟩ : At K mg "lean_holds" (top 36)) c_a_want c_is_lean c_is_number c_minus c_times c_compare
  have c_push_by := w_push_by (P := R.prog) (w := w) (base := base) (⟨He.glo_ok X G (c.fact 27 (f := .glo "push_by") rfl), c.def_ 27 (d := d_push_by) rfl⟩ : At K mg "push_by" (top 39)) hB c_a_want c_is_number c_b_table_letter
  have c_pop_letters := w_pop_letters (P := R.prog) (w := w) (base := base) (⟨He.glo_ok X G (c.fact 30 (f := .glo "pop_letters") rfl), c.def_ 30 (d := d_pop_letters) rfl⟩ : At K mg "pop_letters" (top 43)) hB c_a_want c_is_number c_b_are_tables c_pop_by
  have c_stack_of := w_stack_of (P := R.prog) (w := w) (base := base) (⟨He.glo_ok X G (c.fact 33 (f := .glo "stack_of") rfl), c.def_ 33 (d := d_stack_of) rfl⟩ : At K mg "stack_of" (top 47)) c_a_want c_is_base c_is_digits c_added
  have c_push_letters := w_push_letters (P := R.prog) (w := w) (base := base) (⟨He.glo_ok X G (c.fact 29 (f := .glo "push_letters") rfl), c.def_ 29 (d := d_push_letters) rfl⟩ : At K mg "push_letters" (top 42)) hB c_a_want c_is_number c_b_tables_letters c_push_by
  have c_lean_of_row := w_lean_of_row (P := R.prog) (w := w) (base := base) (⟨He.glo_ok X G (c.fact 31 (f := .glo "lean_of_row") rfl), c.def_ 31 (d := d_lean_of_row) rfl⟩ : At K mg "lean_of_row" (top 44)) hB c_b_tables_letters c_lean_after c_b_lean_by
  have c_Ulaw_is_led := w_Ulaw_is_led (P := R.prog) (w := w) (base := base) (⟨He.glo_ok X G (c.fact 48 (f := .glo "_law_is_led") rfl), c.def_ 48 (d := d_Ulaw_is_led) rfl⟩ : At K mg "_law_is_led" (top 64)) hB c_lean_holds c_lean_back
  have c_Ulaw_is_told := w_Ulaw_is_told (P := R.prog) (w := w) (base := base) (⟨He.glo_ok X G (c.fact 50 (f := .glo "_law_is_told") rfl), c.def_ 50 (d := d_Ulaw_is_told) rfl⟩ : At K mg "_law_is_told" (top 66)) hB c_row_of c_stack_of c_reach_of c_places_of c_plus c_times c_Ulaw_is_long
  have c_Ulaw_is_fed := w_Ulaw_is_fed (P := R.prog) (w := w) (base := base) (⟨He.glo_ok X G (c.fact 51 (f := .glo "_law_is_fed") rfl), c.def_ 51 (d := d_Ulaw_is_fed) rfl⟩ : At K mg "_law_is_fed" (top 67)) hB c_Ulaw_dip c_added c_pop_letters c_taken c_Ulaw_popped c_push_letters
  exact w_law (⟨He.glo_ok X G (c.fact 52 (f := .glo "law") rfl), c.def_ 52 (d := d_law) rfl⟩ : At K mg "law" (top 68)) hB c_Ulaw_well c_Ulaw_row c_Ulaw_pick c_Ulaw_stack c_push_letters c_Ulaw_popped c_pop_letters c_lean_of_row c_Ulaw_lean c_Ulaw_low c_Ulaw_is_led c_times c_chance_of c_Ulaw_is_told c_Ulaw_is_fed
end
theorem facts {w : World} {mg : PySem.Str → Option Value} {fa' : Addr} {h : Heap} (Y : hk.says w h) (G : h.Ns mainGlobals mg) (hmg : mg ("law" : PySem.Str) = some (.ref fa')) :
    ∃ (K : PySem.W.Frag) (fd : FuncData), K.In h ∧ (∀ (s : Shared) (u : Value), BindsTo s fd ⟨[u], []⟩ [("_law_script", u)]) ∧ ∀ base : Heap, K.In base → base.Ns mainGlobals mg → FnG R.prog w K mg base CX0 9 fa' fd ["_law_script"] (toSp K spEnd) := by
  obtain ⟨K, KX, c, cx⟩ := Y
  obtain ⟨fd, F⟩ := c.def_ 52 (d := d_law) rfl
  have e := hmg.symm.trans (He.glo_ok KX G (c.fact 52 (f := .glo "law") rfl))
  cases e
  have b := FunD.bindsA (ps := ["_law_script"]) F fun _ _ _ _ _ _ us hl => match us, hl with | [_], _ => rfl
  refine ⟨K, fd, KX, fun s u => b s [u] rfl, fun base hK hN => ?_⟩
  obtain ⟨_, fd2, F2, FG⟩ := all (w := w) (base := base) KX G c cx
  have e2 : fd2 = fd := fun_uniq F2 F
  rw [e2] at FG
  exact FG
end Hd
end DL
open PySem PySem.W PySem.Calls PyProof.Rows
theorem PySem.Challenge.cw_pushedback_k48_whole_digits_of_pushed_ro_holds : PySem.Challenge.rw_pushedback_k48_whole_digits_of_pushed_ro.Holds := by
  w_on; o_law
  refine HandSHeadRun.head_imp (r := OpenLaw.row PySem.Challenge.rw_pushedback_k48_whole_digits_of_pushed_ro) (q := view (OpenLaw.row PySem.Challenge.rw_pushedback_k48_whole_digits_of_pushed_ro).prog [0, 68]) (H := DL.Hd.hk) (ob := DL.Hd.ob) (M := 8000) (loose := DL.Hd.lo) (d := HandSHeadRun.topDef (OpenLaw.row PySem.Challenge.rw_pushedback_k48_whole_digits_of_pushed_ro).prog 68) (kwd := []) DL.Hd.ob_eq
    DL.Hd.run (by kernel_rfl) (by kernel_rfl) (by kernel_rfl) (by rfl) (by first | assumption | decide +kernel) (by decide +kernel) ⟨rfl, rfl, rfl, rfl, rfl, by decide +kernel⟩ ?hw ?hc
  case hw => w_witness2
  case hc =>
    refine DL.walk_end (l := PySem.Challenge.rw_pushedback_k48_whole_digits_of_pushed_ro) (k := 9) (x := "_law_script") rfl (by kernel_rfl) ⟨rfl, by decide, by decide⟩ ?F
    intro w mg fa h Y G hmg0
    have hmg : mg ("law" : PySem.Str) = some (.ref fa) := by
      have e : (HandSHeadRun.topDef (OpenLaw.row PySem.Challenge.rw_pushedback_k48_whole_digits_of_pushed_ro).prog 68).name = ("law" : PySem.Str) := by kernel_rfl
      rw [← e]
      exact hmg0
    exact DL.Hd.facts Y G hmg
