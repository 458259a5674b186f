import PyProof.Rows.All
import Wide.All
import OpenK.AllK
import Wide.FinOn
import HandS.ForSpec
import HandS.Comp
import HandS.Iter
import HandS.Conv
import HandS.Defaults
import HandS.Slots
import HandS.SlotsOwn
import HandS.Property
import HandS.TryMany
import HandS.FStr
import HandS.Small
import HandS.Wide
import HandS.WideBits
import HandS.WideMore
import HandS.Flow
import HandS.IsInst
import HandS.SortInts
import HandS.Strs
import HandS.Deep
import HandS.TupAny
import HandS.ClsMeth
import HandS.SetFor
import PyProof.ExcBaseAll.Exception
import HandS.Set
import HandS.Head0
import HandS.Head1
import HandS.Head2
import HandS.HeadEnd
import HandS.HeadHook1
import HandS.HeadHook2
import HandS.HeadHook4
import HandS.HeadNt
import PySem.Challenge.RW_pursewebs_k64_golden_row
set_option Elab.async false
set_option linter.all false
set_option maxRecDepth 100000
set_option maxHeartbeats 4000000
/-! VL1: data, the frozen heap, the relation of slots, results. -/
namespace VL
open PySem PySem.Spec L2

/-- plain data -/
inductive D where
  | non | bl (b : Bool) | int (i : Int) | str (x : Str)
  | tup (xs : List D) | lst (xs : List D) | ro (xs : List D) | obj (c : Nat) (fs : List D) | cl (c : Nat)
  deriving Inhabited

/-- the law-wide context: the written part, the classes' addresses by number -/
structure Kx where
  K : PySem.W.Frag
  cls : Nat → Addr

mutual
def Rep (C : Kx) (P : Hp) : D → V → Prop
  | .non, v => v = .non
  | .bl b, v => v = .bl b
  | .int i, v => v = .int i
  | .str x, v => v = .str x
  | .cl c, v => v = .ref (C.cls c)
  | .tup xs, v => ∃ a vs, v = .ref a ∧ SqT C.K P a vs ∧ vs.length ≤ sizeLine ∧ Reps C P xs vs
  | .lst xs, v => ∃ a vs, v = .ref a ∧ P a = some (.lst vs) ∧ vs.length ≤ sizeLine ∧ Reps C P xs vs
  | .ro xs, v => ∃ a vs, v = .ref a ∧ SqL C.K P a vs ∧ vs.length ≤ sizeLine ∧ Reps C P xs vs
  | .obj c fs, v => ∃ a dx us vs, v = .ref a ∧ P a = some (SlX.SlO a (C.cls c) dx us) ∧ P dx = some (.xd []) ∧ (∀ (j : Nat) u, vs[j]? = some u → us[j]? = some (some u)) ∧ Reps C P fs vs
def Reps (C : Kx) (P : Hp) : List D → List V → Prop
  | [], vs => vs = []
  | d :: ds, vs => ∃ v r, vs = v :: r ∧ Rep C P d v ∧ Reps C P ds r
end

theorem Same.seqT {K : PySem.W.Frag} {H H' : Hp} {a : Addr} {xs : List V} (e : Same H H') (h : SqT K H a xs) : SqT K H' a xs := by
  rcases h with (h | ⟨o, h⟩) | h
  · exact .inl (.inl (e _ _ h))
  · exact .inl (.inr ⟨o, e _ _ h⟩)
  · exact .inr h

mutual
theorem Rep.mono {C : Kx} {P P' : Hp} (s : Same P P') : ∀ {d : D} {v : V}, Rep C P d v → Rep C P' d v
  | .non, v, h => by simpa [Rep] using h
  | .bl b, v, h => by simpa [Rep] using h
  | .int i, v, h => by simpa [Rep] using h
  | .str x, v, h => by simpa [Rep] using h
  | .cl c, v, h => by simpa [Rep] using h
  | .tup xs, v, h => by
    rw [Rep] at h ⊢
    obtain ⟨a, vs, e, h1, h2, h3⟩ := h
    exact ⟨a, vs, e, Same.seqT s h1, h2, Reps.mono s h3⟩
  | .lst xs, v, h => by
    rw [Rep] at h ⊢
    obtain ⟨a, vs, e, h1, h2, h3⟩ := h
    exact ⟨a, vs, e, s _ _ h1, h2, Reps.mono s h3⟩
  | .ro xs, v, h => by
    rw [Rep] at h ⊢
    obtain ⟨a, vs, e, h1, h2, h3⟩ := h
    exact ⟨a, vs, e, s.seq h1, h2, Reps.mono s h3⟩
  | .obj c fs, v, h => by
    rw [Rep] at h ⊢
    obtain ⟨a, dx, us, vs, e, h1, h2, h4, h3⟩ := h
    exact ⟨a, dx, us, vs, e, s _ _ h1, s _ _ h2, h4, Reps.mono s h3⟩
theorem Reps.mono {C : Kx} {P P' : Hp} (s : Same P P') : ∀ {ds : List D} {vs : List V}, Reps C P ds vs → Reps C P' ds vs
  | [], vs, h => by simpa [Reps] using h
  | d :: ds, vs, h => by
    rw [Reps] at h ⊢
    obtain ⟨v, r, e, h1, h2⟩ := h
    exact ⟨v, r, e, Rep.mono s h1, Reps.mono s h2⟩
end
section
variable {C : Kx} {P : Hp}
theorem Reps.length : ∀ {ds : List D} {vs : List V}, Reps C P ds vs → ds.length = vs.length
  | [], vs, h => by rw [Reps] at h; subst h; rfl
  | d :: ds, vs, h => by
    rw [Reps] at h
    obtain ⟨v, r, rfl, _, h2⟩ := h
    simp [Reps.length h2]
theorem Reps.get : ∀ {ds : List D} {vs : List V} {i : Nat} {v : V}, Reps C P ds vs → vs[i]? = some v → ∃ d, ds[i]? = some d ∧ Rep C P d v
  | [], vs, i, v, h, e => by rw [Reps] at h; subst h; simp at e
  | d :: ds, vs, i, v, h, e => by
    rw [Reps] at h
    obtain ⟨v0, r, rfl, h1, h2⟩ := h
    cases i with
    | zero => simp at e; subst e; exact ⟨d, by simp, h1⟩
    | succ i => simp at e; obtain ⟨d', e', r'⟩ := Reps.get h2 e; exact ⟨d', by simpa using e', r'⟩
theorem Reps.get' : ∀ {ds : List D} {vs : List V} {i : Nat} {d : D}, Reps C P ds vs → ds[i]? = some d → ∃ v, vs[i]? = some v ∧ Rep C P d v
  | [], vs, i, v, h, e => by simp at e
  | d :: ds, vs, i, v, h, e => by
    rw [Reps] at h
    obtain ⟨v0, r, rfl, h1, h2⟩ := h
    cases i with
    | zero => simp at e; subst e; exact ⟨v0, by simp, h1⟩
    | succ i => simp at e; obtain ⟨d', e', r'⟩ := Reps.get' h2 e; exact ⟨d', by simpa using e', r'⟩
theorem Reps.nil : Reps C P [] [] := by rw [Reps]
theorem Reps.cons {d ds v vs} (h1 : Rep C P d v) (h2 : Reps C P ds vs) : Reps C P (d :: ds) (v :: vs) := by rw [Reps]; exact ⟨_, _, rfl, h1, h2⟩
theorem Reps.append : ∀ {ds es : List D} {vs us : List V}, Reps C P ds vs → Reps C P es us → Reps C P (ds ++ es) (vs ++ us)
  | [], es, vs, us, h, h' => by rw [Reps] at h; subst h; simpa using h'
  | d :: ds, es, vs, us, h, h' => by
    rw [Reps] at h
    obtain ⟨v, r, rfl, h1, h2⟩ := h
    exact Reps.cons h1 (Reps.append h2 h')
theorem Reps.set : ∀ {ds : List D} {vs : List V} {i : Nat} {d v}, Reps C P ds vs → Rep C P d v → Reps C P (ds.set i d) (vs.set i v)
  | [], vs, i, d, v, h, h' => by rw [Reps] at h; subst h; simp [Reps]
  | d0 :: ds, vs, i, d, v, h, h' => by
    rw [Reps] at h
    obtain ⟨v0, r, rfl, h1, h2⟩ := h
    cases i with
    | zero => exact Reps.cons h' h2
    | succ i => exact Reps.cons h1 (Reps.set h2 h')
theorem Reps.take : ∀ {ds : List D} {vs : List V} (n : Nat), Reps C P ds vs → Reps C P (ds.take n) (vs.take n)
  | [], vs, n, h => by rw [Reps] at h; subst h; simp [Reps]
  | d0 :: ds, vs, n, h => by
    rw [Reps] at h
    obtain ⟨v0, r, rfl, h1, h2⟩ := h
    cases n with
    | zero => simp [Reps]
    | succ i => exact Reps.cons h1 (Reps.take _ h2)
theorem Reps.drop : ∀ {ds : List D} {vs : List V} (n : Nat), Reps C P ds vs → Reps C P (ds.drop n) (vs.drop n)
  | [], vs, n, h => by rw [Reps] at h; subst h; simp [Reps]
  | d0 :: ds, vs, n, h => by
    cases n with
    | zero => simpa using h
    | succ i =>
      rw [Reps] at h
      obtain ⟨v0, r, rfl, h1, h2⟩ := h
      exact Reps.drop i h2
theorem Reps.reverse : ∀ {ds : List D} {vs : List V}, Reps C P ds vs → Reps C P ds.reverse vs.reverse
  | [], vs, h => by rw [Reps] at h; subst h; simp [Reps]
  | d0 :: ds, vs, h => by
    rw [Reps] at h
    obtain ⟨v0, r, rfl, h1, h2⟩ := h
    simp only [List.reverse_cons]
    exact Reps.append (Reps.reverse h2) (Reps.cons h1 Reps.nil)
theorem Reps.ints : ∀ {ns : List Int} {vs : List V}, Reps C P (ns.map D.int) vs → vs = ns.map V.int
  | [], vs, h => by simpa [Reps] using h
  | n :: ns, vs, h => by
    rw [List.map_cons, Reps] at h
    obtain ⟨v, r, rfl, h1, h2⟩ := h
    rw [Rep] at h1
    rw [h1, Reps.ints h2]; rfl
theorem Reps.ofInts : ∀ (ns : List Int), Reps C P (ns.map D.int) (ns.map V.int)
  | [] => Reps.nil
  | n :: ns => Reps.cons (by rw [Rep]) (Reps.ofInts ns)
theorem Rep.int {i : Int} {v : V} (h : Rep C P (.int i) v) : v = .int i := by rw [Rep] at h; exact h
theorem Rep.bl {i : Bool} {v : V} (h : Rep C P (.bl i) v) : v = .bl i := by rw [Rep] at h; exact h
theorem Rep.non {v : V} (h : Rep C P .non v) : v = .non := by rw [Rep] at h; exact h
theorem Rep.str {i : Str} {v : V} (h : Rep C P (.str i) v) : v = .str i := by rw [Rep] at h; exact h
theorem Rep.ofInt {i : Int} : Rep C P (.int i) (.int i) := by rw [Rep]
theorem Rep.ofBl {i : Bool} : Rep C P (.bl i) (.bl i) := by rw [Rep]
theorem Rep.ofNon : Rep C P .non .non := by rw [Rep]
theorem Rep.cl {c : Nat} {v : V} (h : Rep C P (.cl c) v) : v = .ref (C.cls c) := by rw [Rep] at h; exact h
theorem Rep.ofCl {c : Nat} : Rep C P (.cl c) (.ref (C.cls c)) := by rw [Rep]
theorem Rep.ofStr {i : Str} : Rep C P (.str i) (.str i) := by rw [Rep]
end

/-- a slot of a frame -/
inductive Sl where
  | un
  | d (x : D)
  | own (xs : List D)
  | arg (xs : List D)
  | cns (c : Nat) (fs : List (Option D))
  deriving Inhabited
abbrev En := List Sl

/-- a frame: the heap at its entry, the list or the object that it may change for its caller -/
structure Fc where
  H0 : Hp
  P0 : Hp
  ad : Option Addr
  dx : Option Addr
def Fc.ex (F : Fc) (a : Addr) : Prop := F.ad = some a ∨ F.dx = some a

structure Rel (C : Kx) (F : Fc) (ρ : En) (P : Hp) (σ : St) (H : Hp) : Prop where
  len : ρ.length = σ.length
  sub : Same P H
  nex : ∀ a, F.ex a → P a = none ∧ F.H0 a ≠ none
  frame : ∀ a o, F.H0 a = some o → ¬ F.ex a → H a = some o
  there : ∀ a, H a = none → F.H0 a = none
  old : ∀ a o, P a = some o → F.P0 a = some o ∨ F.H0 a = none
  val : ∀ (i : Nat) x, ρ[i]? = some (.d x) → ∃ v, σ[i]? = some (some v) ∧ Rep C P x v
  own : ∀ (i : Nat) xs, ρ[i]? = some (.own xs) → ∃ a vs, σ[i]? = some (some (.ref a)) ∧ H a = some (.lst vs) ∧ vs.length ≤ sizeLine ∧ Reps C P xs vs ∧ P a = none ∧ F.H0 a = none
  arg : ∀ (i : Nat) xs, ρ[i]? = some (.arg xs) → i = 0 ∧ ∃ a vs, σ[i]? = some (some (.ref a)) ∧ F.ad = some a ∧ H a = some (.lst vs) ∧ vs.length ≤ sizeLine ∧ Reps C P xs vs
  cns : ∀ (i : Nat) c fs, ρ[i]? = some (.cns c fs) → i = 0 ∧ ∃ a dx vs, σ[i]? = some (some (.ref a)) ∧ F.ad = some a ∧ F.dx = some dx ∧ dx ≠ a ∧ SlX.Slt H a (C.cls c) dx vs ∧
    ∀ (j : Nat) x, fs[j]? = some (some x) → ∃ v, vs[j]? = some (some v) ∧ Rep C P x v
  dist : ∀ (i j : Nat) a xs ys, ρ[i]? = some (.own xs) → ρ[j]? = some (.own ys) → σ[i]? = some (some (.ref a)) → σ[j]? = some (some (.ref a)) → i = j

section
variable {C : Kx} {F : Fc} {ρ : En} {P : Hp} {σ : St} {H : Hp}
theorem same_upd {P : Hp} {p : Addr} {o : HO} (h : P p = none) : Same P (upd P p o) := fun b u e => by
  rw [upd_ne (ne_of_none e h)]; exact e
theorem same_upd2 {P H : Hp} {p : Addr} {o : HO} (s : Same P H) : Same (upd P p o) (upd H p o) := fun b u e => by
  by_cases hb : b = p
  · subst hb; rw [upd_same] at e ⊢; exact e
  · rw [upd_ne hb] at e ⊢; exact s _ _ e
theorem Rel.exH (R : Rel C F ρ P σ H) {a : Addr} (h : F.ex a) : H a ≠ none := fun e => (R.nex a h).2 (R.there a e)
theorem Rel.pnone (R : Rel C F ρ P σ H) {p : Addr} (h : H p = none) : P p = none := by
  cases e : P p with
  | none => rfl
  | some o => rw [R.sub p o e] at h; cases h
/-- a new object, frozen at once -/
theorem Rel.alloc (R : Rel C F ρ P σ H) {p : Addr} (o : HO) (h : H p = none) : Rel C F ρ (upd P p o) σ (upd H p o) ∧ Same P (upd P p o) := by
  have hP := R.pnone h
  have sP : Same P (upd P p o) := same_upd hP
  have ne : ∀ {b u}, H b = some u → b ≠ p := fun e => ne_of_none e h
  refine ⟨⟨R.len, same_upd2 R.sub, fun a ha => ?_, fun a u e hx => ?_, fun a e => ?_, fun a u e => ?_, fun i x e => ?_, fun i xs e => ?_, fun i xs e => ?_, fun i c fs e => ?_, R.dist⟩, sP⟩
  · have : a ≠ p := fun z => R.exH ha (z ▸ h)
    rw [upd_ne this]; exact R.nex a ha
  · have q := R.frame a u e hx
    rw [upd_ne (ne q)]; exact q
  · by_cases hp : a = p
    · subst hp; rw [upd_same] at e; cases e
    · rw [upd_ne hp] at e; exact R.there a e
  · by_cases hp : a = p
    · subst hp; exact .inr (R.there a h)
    · rw [upd_ne hp] at e; exact R.old a u e
  · obtain ⟨v, h1, h2⟩ := R.val i x e
    exact ⟨v, h1, h2.mono sP⟩
  · obtain ⟨a, vs, h1, h2, h3, h4, h5, h6⟩ := R.own i xs e
    exact ⟨a, vs, h1, by rw [upd_ne (ne h2)]; exact h2, h3, h4.mono sP, by rw [upd_ne (ne h2)]; exact h5, h6⟩
  · obtain ⟨h0, a, vs, h1, h2, h3, h4, h5⟩ := R.arg i xs e
    exact ⟨h0, a, vs, h1, h2, by rw [upd_ne (ne h3)]; exact h3, h4, h5.mono sP⟩
  · obtain ⟨h0, a, dx, vs, h1, h2, h3, h4, h5, h6⟩ := R.cns i c fs e
    refine ⟨h0, a, dx, vs, h1, h2, h3, h4, ?_, fun j x ej => ?_⟩
    · rcases h5 with ⟨q1, q2⟩ | ⟨q1, q2⟩
      · exact .inl ⟨by rw [upd_ne (ne q1)]; exact q1, q2⟩
      · exact .inr ⟨by rw [upd_ne (ne q1)]; exact q1, by rw [upd_ne (ne q2)]; exact q2⟩
    · obtain ⟨v, q1, q2⟩ := h6 j x ej
      exact ⟨v, q1, q2.mono sP⟩
/-- a new object, not frozen -/
theorem Rel.lay (R : Rel C F ρ P σ H) {p : Addr} (o : HO) (h : H p = none) : Rel C F ρ P σ (upd H p o) := by
  have ne : ∀ {b u}, H b = some u → b ≠ p := fun e => ne_of_none e h
  refine ⟨R.len, fun b u e => ?_, R.nex, fun a u e hx => ?_, fun a e => ?_, R.old, R.val, fun i xs e => ?_, fun i xs e => ?_, fun i c fs e => ?_, R.dist⟩
  · have q := R.sub b u e
    rw [upd_ne (ne q)]; exact q
  · have q := R.frame a u e hx
    rw [upd_ne (ne q)]; exact q
  · by_cases hp : a = p
    · subst hp; rw [upd_same] at e; cases e
    · rw [upd_ne hp] at e; exact R.there a e
  · obtain ⟨a, vs, h1, h2, h3, h4, h5, h6⟩ := R.own i xs e
    exact ⟨a, vs, h1, by rw [upd_ne (ne h2)]; exact h2, h3, h4, h5, h6⟩
  · obtain ⟨h0, a, vs, h1, h2, h3, h4, h5⟩ := R.arg i xs e
    exact ⟨h0, a, vs, h1, h2, by rw [upd_ne (ne h3)]; exact h3, h4, h5⟩
  · obtain ⟨h0, a, dx, vs, h1, h2, h3, h4, h5, h6⟩ := R.cns i c fs e
    refine ⟨h0, a, dx, vs, h1, h2, h3, h4, ?_, h6⟩
    rcases h5 with ⟨q1, q2⟩ | ⟨q1, q2⟩
    · exact .inl ⟨by rw [upd_ne (ne q1)]; exact q1, q2⟩
    · exact .inr ⟨by rw [upd_ne (ne q1)]; exact q1, by rw [upd_ne (ne q2)]; exact q2⟩
theorem get_lt {α : Type} {l : List α} {i : Nat} {x : α} (h : l[i]? = some x) : i < l.length := (List.getElem?_eq_some_iff.mp h).1
theorem set_get {α : Type} {l : List α} {i : Nat} {x y : α} (h : l[i]? = some x) : (l.set i y)[i]? = some y := List.getElem?_set_self (get_lt h)
theorem get_set_cases {α : Type} {l : List α} {i j : Nat} {y z : α} (h : (l.set i y)[j]? = some z) : (j = i ∧ z = y ∧ i < l.length) ∨ (j ≠ i ∧ l[j]? = some z) := by
  by_cases e : j = i
  · subst e
    have hl : j < l.length := by have := get_lt h; simpa using this
    rw [List.getElem?_set_self hl] at h
    exact .inl ⟨rfl, (Option.some.inj h).symm, hl⟩
  · rw [List.getElem?_set_ne (Ne.symm e)] at h
    exact .inr ⟨e, h⟩
/-- the list of an own slot is changed -/
theorem Rel.storeOwn (R : Rel C F ρ P σ H) {i : Nat} {xs ys : List D} {a : Addr} {us : List V} (e : ρ[i]? = some (.own xs)) (ha : σ[i]? = some (some (.ref a))) (hl : us.length ≤ sizeLine) (r : Reps C P ys us) :
    Rel C F (ρ.set i (.own ys)) P σ (upd H a (.lst us)) := by
  obtain ⟨a', vs, h1, h2, h3, h4, h5, h6⟩ := R.own i xs e
  rw [ha] at h1
  obtain rfl : a = a' := by injection (Option.some.inj h1) with z; injection z
  refine ⟨by simpa using R.len, fun b u q => ?_, R.nex, fun b u q hx => ?_, fun b q => ?_, R.old, fun j x q => ?_, fun j ws q => ?_, fun j ws q => ?_, fun j c fs q => ?_, fun j k b ws zs q1 q2 q3 q4 => ?_⟩
  · have z := R.sub b u q
    have : b ≠ a := fun t => by subst t; rw [h5] at q; cases q
    rw [upd_ne this]; exact z
  · have : b ≠ a := fun t => by subst t; rw [h6] at q; cases q
    rw [upd_ne this]; exact R.frame b u q hx
  · by_cases t : b = a
    · subst t; rw [upd_same] at q; cases q
    · rw [upd_ne t] at q; exact R.there b q
  · rcases get_set_cases q with ⟨_, z, _⟩ | ⟨_, z⟩
    · cases z
    · exact R.val j x z
  · rcases get_set_cases q with ⟨rfl, z, _⟩ | ⟨hj, z⟩
    · cases z
      exact ⟨a, us, ha, upd_same, hl, r, h5, h6⟩
    · obtain ⟨b, vs', k1, k2, k3, k4, k5, k6⟩ := R.own j ws z
      have : b ≠ a := fun t => by subst t; exact hj (R.dist j i b ws xs z e k1 ha)
      exact ⟨b, vs', k1, by rw [upd_ne this]; exact k2, k3, k4, k5, k6⟩
  · rcases get_set_cases q with ⟨rfl, z, _⟩ | ⟨hj, z⟩
    · cases z
    · obtain ⟨k0, b, vs', k1, k2, k3, k4, k5⟩ := R.arg j ws z
      have : b ≠ a := fun t => by subst t; exact (R.nex b (.inl k2)).2 h6
      exact ⟨k0, b, vs', k1, k2, by rw [upd_ne this]; exact k3, k4, k5⟩
  · rcases get_set_cases q with ⟨rfl, z, _⟩ | ⟨hj, z⟩
    · cases z
    · obtain ⟨k0, b, dx, vs', k1, k2, k3, k4, k5, k6⟩ := R.cns j c fs z
      have n1 : b ≠ a := fun t => by subst t; exact (R.nex b (.inl k2)).2 h6
      have n2 : dx ≠ a := fun t => by subst t; exact (R.nex dx (.inr k3)).2 h6
      refine ⟨k0, b, dx, vs', k1, k2, k3, k4, ?_, k6⟩
      rcases k5 with ⟨q1, q2⟩ | ⟨q1, q2⟩
      · exact .inl ⟨by rw [upd_ne n1]; exact q1, q2⟩
      · exact .inr ⟨by rw [upd_ne n1]; exact q1, by rw [upd_ne n2]; exact q2⟩
  · rcases get_set_cases q1 with ⟨rfl, z, _⟩ | ⟨hj, z⟩ <;> rcases get_set_cases q2 with ⟨rfl, z', _⟩ | ⟨hk, z'⟩
    · rfl
    · exact R.dist j k b xs zs e z' q3 q4
    · exact R.dist j k b ws xs z e q3 q4
    · exact R.dist j k b ws zs z z' q3 q4
/-- the list of an arg slot is changed -/
theorem Rel.storeArg (R : Rel C F ρ P σ H) {i : Nat} {xs ys : List D} {a : Addr} {us : List V} (e : ρ[i]? = some (.arg xs)) (ha : σ[i]? = some (some (.ref a))) (hl : us.length ≤ sizeLine) (r : Reps C P ys us) :
    Rel C F (ρ.set i (.arg ys)) P σ (upd H a (.lst us)) := by
  obtain ⟨hi0, a', vs, h1, h2, h3, h4, h5⟩ := R.arg i xs e
  rw [ha] at h1
  obtain rfl : a = a' := by injection (Option.some.inj h1) with z; injection z
  have hx : F.ex a := .inl h2
  refine ⟨by simpa using R.len, fun b u q => ?_, R.nex, fun b u q hb => ?_, fun b q => ?_, R.old, fun j x q => ?_, fun j ws q => ?_, fun j ws q => ?_, fun j c fs q => ?_, fun j k b ws zs q1 q2 q3 q4 => ?_⟩
  · have z := R.sub b u q
    have : b ≠ a := fun t => by subst t; rw [(R.nex b hx).1] at q; cases q
    rw [upd_ne this]; exact z
  · have : b ≠ a := fun t => by subst t; exact hb hx
    rw [upd_ne this]; exact R.frame b u q hb
  · by_cases t : b = a
    · subst t; rw [upd_same] at q; cases q
    · rw [upd_ne t] at q; exact R.there b q
  · rcases get_set_cases q with ⟨_, z, _⟩ | ⟨_, z⟩
    · cases z
    · exact R.val j x z
  · rcases get_set_cases q with ⟨rfl, z, _⟩ | ⟨hj, z⟩
    · cases z
    · obtain ⟨b, vs', k1, k2, k3, k4, k5, k6⟩ := R.own j ws z
      have : b ≠ a := fun t => by subst t; exact (R.nex b hx).2 k6
      exact ⟨b, vs', k1, by rw [upd_ne this]; exact k2, k3, k4, k5, k6⟩
  · rcases get_set_cases q with ⟨rfl, z, _⟩ | ⟨hj, z⟩
    · cases z
      exact ⟨hi0, a, us, ha, h2, upd_same, hl, r⟩
    · exact absurd ((R.arg j ws z).1.trans hi0.symm) hj
  · rcases get_set_cases q with ⟨rfl, z, _⟩ | ⟨hj, z⟩
    · cases z
    · exact absurd ((R.cns j c fs z).1.trans hi0.symm) hj
  · rcases get_set_cases q1 with ⟨rfl, z, _⟩ | ⟨hj, z⟩
    · cases z
    · rcases get_set_cases q2 with ⟨rfl, z', _⟩ | ⟨hk, z'⟩
      · cases z'
      · exact R.dist j k b ws zs z z' q3 q4
/-- a name is stored, its slot not the caller's -/
def Sl.free : Sl → Bool
  | .arg _ => false
  | .cns _ _ => false
  | _ => true
theorem Rel.setD (R : Rel C F ρ P σ H) {i : Nat} {s : Sl} {x : D} {v : V} (e : ρ[i]? = some s) (hf : s.free = true) (r : Rep C P x v) : Rel C F (ρ.set i (.d x)) P (σ.set i (some v)) H := by
  have hi : i < σ.length := by rw [← R.len]; exact get_lt e
  have so : ∀ {j : Nat}, j ≠ i → (σ.set i (some v))[j]? = σ[j]? := fun hj => List.getElem?_set_ne (Ne.symm hj)
  refine ⟨by simpa using R.len, R.sub, R.nex, R.frame, R.there, R.old, fun j y q => ?_, fun j ws q => ?_, fun j ws q => ?_, fun j c fs q => ?_, fun j k b ws zs q1 q2 q3 q4 => ?_⟩
  · rcases get_set_cases q with ⟨rfl, z, _⟩ | ⟨hj, z⟩
    · cases z
      exact ⟨v, List.getElem?_set_self hi, r⟩
    · rw [so hj]; exact R.val j y z
  · rcases get_set_cases q with ⟨rfl, z, _⟩ | ⟨hj, z⟩
    · cases z
    · rw [so hj]; exact R.own j ws z
  · rcases get_set_cases q with ⟨rfl, z, _⟩ | ⟨hj, z⟩
    · cases z
    · rw [so hj]; exact R.arg j ws z
  · rcases get_set_cases q with ⟨rfl, z, _⟩ | ⟨hj, z⟩
    · cases z
    · rw [so hj]; exact R.cns j c fs z
  · rcases get_set_cases q1 with ⟨rfl, z, _⟩ | ⟨hj, z⟩
    · cases z
    · rcases get_set_cases q2 with ⟨rfl, z', _⟩ | ⟨hk, z'⟩
      · cases z'
      · rw [so hj] at q3; rw [so hk] at q4
        exact R.dist j k b ws zs z z' q3 q4
/-- a name is given a new list of its own -/
theorem Rel.setOwn (R : Rel C F ρ P σ H) {i : Nat} {s : Sl} {xs : List D} {a : Addr} {vs : List V} (e : ρ[i]? = some s) (hf : s.free = true) (ha : H a = some (.lst vs)) (hl : vs.length ≤ sizeLine) (r : Reps C P xs vs) (hP : P a = none) (h0 : F.H0 a = none)
    (hn : ∀ (j : Nat) ys, ρ[j]? = some (.own ys) → σ[j]? = some (some (.ref a)) → False) : Rel C F (ρ.set i (.own xs)) P (σ.set i (some (.ref a))) H := by
  have hi : i < σ.length := by rw [← R.len]; exact get_lt e
  have so : ∀ {j : Nat}, j ≠ i → (σ.set i (some (V.ref a)))[j]? = σ[j]? := fun hj => List.getElem?_set_ne (Ne.symm hj)
  have ss : (σ.set i (some (V.ref a)))[i]? = some (some (.ref a)) := List.getElem?_set_self hi
  refine ⟨by simpa using R.len, R.sub, R.nex, R.frame, R.there, R.old, fun j y q => ?_, fun j ws q => ?_, fun j ws q => ?_, fun j c fs q => ?_, fun j k b ws zs q1 q2 q3 q4 => ?_⟩
  · rcases get_set_cases q with ⟨rfl, z, _⟩ | ⟨hj, z⟩
    · cases z
    · rw [so hj]; exact R.val j y z
  · rcases get_set_cases q with ⟨rfl, z, _⟩ | ⟨hj, z⟩
    · cases z
      exact ⟨a, vs, ss, ha, hl, r, hP, h0⟩
    · rw [so hj]; exact R.own j ws z
  · rcases get_set_cases q with ⟨rfl, z, _⟩ | ⟨hj, z⟩
    · cases z
    · rw [so hj]; exact R.arg j ws z
  · rcases get_set_cases q with ⟨rfl, z, _⟩ | ⟨hj, z⟩
    · cases z
    · rw [so hj]; exact R.cns j c fs z
  · rcases get_set_cases q1 with ⟨rfl, z, _⟩ | ⟨hj, z⟩ <;> rcases get_set_cases q2 with ⟨rfl, z', _⟩ | ⟨hk, z'⟩
    · rfl
    · rw [ss] at q3; cases q3; rw [so hk] at q4
      exact (hn k zs z' q4).elim
    · rw [ss] at q4; cases q4; rw [so hj] at q3
      exact (hn j ws z q3).elim
    · rw [so hj] at q3; rw [so hk] at q4
      exact R.dist j k b ws zs z z' q3 q4
/-- an own list is frozen -/
theorem Rel.freeze (R : Rel C F ρ P σ H) {i : Nat} {xs : List D} {a : Addr} (e : ρ[i]? = some (.own xs)) (ha : σ[i]? = some (some (.ref a))) :
    ∃ P', Same P P' ∧ Rel C F (ρ.set i (.d (.lst xs))) P' σ H ∧ Rep C P' (.lst xs) (.ref a) := by
  obtain ⟨a', vs, h1, h2, h3, h4, h5, h6⟩ := R.own i xs e
  rw [ha] at h1
  obtain rfl : a = a' := by injection (Option.some.inj h1) with z; injection z
  have sP : Same P (upd P a (.lst vs)) := same_upd h5
  have rp : Rep C (upd P a (.lst vs)) (.lst xs) (.ref a) := by
    rw [Rep]
    exact ⟨a, vs, rfl, upd_same, h3, h4.mono sP⟩
  refine ⟨upd P a (.lst vs), sP, ⟨by simpa using R.len, fun b u q => ?_, fun b hb => ?_, R.frame, R.there, fun b u q => ?_, fun j y q => ?_, fun j ws q => ?_, fun j ws q => ?_, fun j c fs q => ?_, fun j k b ws zs q1 q2 q3 q4 => ?_⟩, rp⟩
  · by_cases t : b = a
    · subst t; rw [upd_same] at q; cases q; exact h2
    · rw [upd_ne t] at q; exact R.sub b u q
  · have t : b ≠ a := fun t => by subst t; exact (R.nex b hb).2 h6
    rw [upd_ne t]; exact R.nex b hb
  · by_cases t : b = a
    · subst t; exact .inr h6
    · rw [upd_ne t] at q; exact R.old b u q
  · rcases get_set_cases q with ⟨rfl, z, _⟩ | ⟨hj, z⟩
    · cases z
      exact ⟨_, ha, rp⟩
    · obtain ⟨v, k1, k2⟩ := R.val j y z
      exact ⟨v, k1, k2.mono sP⟩
  · rcases get_set_cases q with ⟨rfl, z, _⟩ | ⟨hj, z⟩
    · cases z
    · obtain ⟨b, us, k1, k2, k3, k4, k5, k6⟩ := R.own j ws z
      have t : b ≠ a := fun t => by subst t; exact hj (R.dist j i b ws xs z e k1 ha)
      exact ⟨b, us, k1, k2, k3, k4.mono sP, by rw [upd_ne t]; exact k5, k6⟩
  · rcases get_set_cases q with ⟨rfl, z, _⟩ | ⟨hj, z⟩
    · cases z
    · obtain ⟨k0, b, us, k1, k2, k3, k4, k5⟩ := R.arg j ws z
      exact ⟨k0, b, us, k1, k2, k3, k4, k5.mono sP⟩
  · rcases get_set_cases q with ⟨rfl, z, _⟩ | ⟨hj, z⟩
    · cases z
    · obtain ⟨k0, b, dx, us, k1, k2, k3, k4, k5, k6⟩ := R.cns j c fs z
      exact ⟨k0, b, dx, us, k1, k2, k3, k4, k5, fun l x el => let ⟨v, w1, w2⟩ := k6 l x el; ⟨v, w1, w2.mono sP⟩⟩
  · rcases get_set_cases q1 with ⟨rfl, z, _⟩ | ⟨hj, z⟩
    · cases z
    · rcases get_set_cases q2 with ⟨rfl, z', _⟩ | ⟨hk, z'⟩
      · cases z'
      · exact R.dist j k b ws zs z z' q3 q4
/-- a field of the object that is made is stored -/
theorem Rel.setFld (R : Rel C F ρ P σ H) {i j c : Nat} {fs : List (Option D)} {a dx : Addr} {vs : List (Option V)} {x : D} {v : V} (e : ρ[i]? = some (.cns c fs)) (ha : σ[i]? = some (some (.ref a))) (hs : SlX.Slt H a (C.cls c) dx vs)
    (hdx : F.dx = some dx) (hv : ∀ (j : Nat) x, fs[j]? = some (some x) → ∃ v, vs[j]? = some (some v) ∧ Rep C P x v) (hj : j < fs.length) (r : Rep C P x v) :
    Rel C F (ρ.set i (.cns c (fs.set j (some x)))) P σ (SlX.slH H a (C.cls c) dx (SlX.putS j v vs)) := by
  obtain ⟨hi0, a', dx', vs', h1, h2, h3, h4, h5, h6⟩ := R.cns i c fs e
  rw [ha] at h1
  obtain rfl : a = a' := by injection (Option.some.inj h1) with z; injection z
  rw [hdx] at h3
  obtain rfl : dx = dx' := Option.some.inj h3
  have hxa : F.ex a := .inl h2
  have hxd : F.ex dx := .inr hdx
  have nn : ∀ b, ¬ F.ex b → b ≠ a ∧ b ≠ dx := fun b hb => ⟨fun t => hb (t ▸ hxa), fun t => hb (t ▸ hxd)⟩
  have keep : ∀ {b u}, H b = some u → ¬ F.ex b → SlX.slH H a (C.cls c) dx (SlX.putS j v vs) b = some u := fun {b u} q hb => by
    rw [SlX.slH_ne (nn b hb).1 (nn b hb).2]; exact q
  refine ⟨by simpa using R.len, fun b u q => ?_, R.nex, fun b u q hb => keep (R.frame b u q hb) hb, fun b q => ?_, R.old, fun j y q => ?_, fun j ws q => ?_, fun j ws q => ?_, fun k c' fs' q => ?_, fun j k b ws zs q1 q2 q3 q4 => ?_⟩
  · exact keep (R.sub b u q) fun hb => by rw [(R.nex b hb).1] at q; cases q
  · by_cases t1 : b = a
    · subst t1; unfold SlX.slH at q; rw [upd_same] at q; cases q
    · by_cases t2 : b = dx
      · subst t2; unfold SlX.slH at q; rw [upd_ne t1, upd_same] at q; cases q
      · rw [SlX.slH_ne t1 t2] at q; exact R.there b q
  · rcases get_set_cases q with ⟨rfl, z, _⟩ | ⟨hj, z⟩
    · cases z
    · exact R.val j y z
  · rcases get_set_cases q with ⟨rfl, z, _⟩ | ⟨hj, z⟩
    · cases z
    · obtain ⟨b, us, k1, k2, k3, k4, k5, k6⟩ := R.own j ws z
      exact ⟨b, us, k1, keep k2 fun hb => (R.nex b hb).2 k6, k3, k4, k5, k6⟩
  · rcases get_set_cases q with ⟨rfl, z, _⟩ | ⟨hj, z⟩
    · cases z
    · exact absurd ((R.arg j ws z).1.trans hi0.symm) hj
  · rcases get_set_cases q with ⟨rfl, z, _⟩ | ⟨hk, z⟩
    · injection z with z1 z2
      subst z1 z2
      refine ⟨hi0, a, dx, _, ha, h2, hdx, h4, SlX.slH_slt h4, fun l y el => ?_⟩
      rcases get_set_cases el with ⟨rfl, z, _⟩ | ⟨hl, z⟩
      · injection z with z
        subst z
        exact ⟨v, SlX.putS_get _ _ _, r⟩
      · obtain ⟨u, w1, w2⟩ := hv l y z
        exact ⟨u, (SlX.putS_ne hl).mpr w1, w2⟩
    · exact absurd ((R.cns k c' fs' z).1.trans hi0.symm) hk
  · rcases get_set_cases q1 with ⟨rfl, z, _⟩ | ⟨hj, z⟩
    · cases z
    · rcases get_set_cases q2 with ⟨rfl, z', _⟩ | ⟨hk, z'⟩
      · cases z'
      · exact R.dist j k b ws zs z z' q3 q4
end
end VL

set_option Elab.async false
set_option linter.all false
set_option maxRecDepth 100000
set_option maxHeartbeats 4000000
/-! VL2: results, what holds behind an expression, small expressions. -/
namespace VL
open PySem PySem.Spec L2

inductive Res (α : Type) where
  | ok (a : α) (ρ : En)
  | exc (c : Nat) (ρ : En)
  | stuck
  deriving Inhabited
def M (α : Type) := En → Res α
@[reducible] def M.pure {α} (a : α) : M α := fun ρ => .ok a ρ
def M.bind {α β} (m : M α) (k : α → M β) : M β := fun ρ => match m ρ with
  | .ok a ρ' => k a ρ'
  | .exc c ρ' => .exc c ρ'
  | .stuck => .stuck
def M.lift {α} (o : Option α) : M α := fun ρ => match o with
  | some a => .ok a ρ
  | none => .stuck
/-- what an expression gives: data, or the list of a slot -/
inductive Hd where
  | d (x : D) | sl (i : Nat)
  deriving Inhabited
def viewSl (ρ : En) (i : Nat) : Res D := match ρ[i]? with
  | some (.own xs) => .ok (.lst xs) ρ
  | some (.arg xs) => .ok (.lst xs) ρ
  | _ => .stuck
def frzSl (ρ : En) (i : Nat) : Res D := match ρ[i]? with
  | some (.own xs) => .ok (.lst xs) (ρ.set i (.d (.lst xs)))
  | _ => .stuck
def view : Hd → M D
  | .d x => M.pure x
  | .sl i => fun ρ => viewSl ρ i
def frz : Hd → M D
  | .d x => M.pure x
  | .sl i => fun ρ => frzSl ρ i

/-- a value seen in the heap H, its contents frozen in P -/
def RepB (C : Kx) (P H : Hp) : D → V → Prop
  | .lst xs, v => ∃ a vs, v = .ref a ∧ H a = some (.lst vs) ∧ vs.length ≤ sizeLine ∧ Reps C P xs vs
  | .ro xs, v => ∃ a vs, v = .ref a ∧ SqL C.K H a vs ∧ vs.length ≤ sizeLine ∧ Reps C P xs vs
  | d, v => Rep C P d v
def HRep (C : Kx) (P : Hp) (σ : L2.St) : Hd → V → Prop
  | .d x, v => Rep C P x v
  | .sl i, v => σ[i]? = some (some v)

section
variable {C : Kx} {F : Fc} {ρ ρ' : En} {P P' : Hp} {σ : L2.St} {H : Hp} {W : WX}
theorem Rep.B {d : D} {v : V} (s : Same P H) (h : Rep C P d v) : RepB C P H d v := by
  cases d with
  | lst xs => rw [Rep] at h; obtain ⟨a, vs, e, h1, h2, h3⟩ := h; exact ⟨a, vs, e, s _ _ h1, h2, h3⟩
  | ro xs => rw [Rep] at h; obtain ⟨a, vs, e, h1, h2, h3⟩ := h; exact ⟨a, vs, e, s.seq h1, h2, h3⟩
  | _ => exact h
theorem HRep.mono {h : Hd} {v : V} (s : Same P P') (r : HRep C P σ h v) : HRep C P' σ h v := by
  cases h with
  | d x => exact Rep.mono s r
  | sl i => exact r
theorem view_ok {h : Hd} {v : V} {x : D} (R : Rel C F ρ P σ H) (r : HRep C P σ h v) (e : view h ρ = .ok x ρ') : ρ' = ρ ∧ RepB C P H x v := by
  cases h with
  | d y => cases e; exact ⟨rfl, Rep.B R.sub r⟩
  | sl i =>
    have r : σ[i]? = some (some v) := r
    have e : viewSl ρ i = .ok x ρ' := e
    unfold viewSl at e
    cases q : ρ[i]? with
    | none => rw [q] at e; cases e
    | some s =>
      rw [q] at e
      cases s with
      | own xs =>
        cases e
        obtain ⟨a, vs, h1, h2, h3, h4, _⟩ := R.own i xs q
        rw [r] at h1; cases h1
        exact ⟨rfl, a, vs, rfl, h2, h3, h4⟩
      | arg xs =>
        cases e
        obtain ⟨_, a, vs, h1, _, h2, h3, h4⟩ := R.arg i xs q
        rw [r] at h1; cases h1
        exact ⟨rfl, a, vs, rfl, h2, h3, h4⟩
      | _ => cases e
theorem view_noexc {h : Hd} {c : Nat} (e : view h ρ = .exc c ρ') : False := by
  cases h with
  | d y => cases e
  | sl i =>
    have e : viewSl ρ i = .exc c ρ' := e
    unfold viewSl at e
    cases q : ρ[i]? with
    | none => rw [q] at e; cases e
    | some s => rw [q] at e; cases s <;> cases e
theorem frz_ok {h : Hd} {v : V} {x : D} (R : Rel C F ρ P σ H) (r : HRep C P σ h v) (e : frz h ρ = .ok x ρ') : ∃ P', Same P P' ∧ Rel C F ρ' P' σ H ∧ Rep C P' x v := by
  cases h with
  | d y => cases e; exact ⟨P, Same.refl _, R, r⟩
  | sl i =>
    have r : σ[i]? = some (some v) := r
    have e : frzSl ρ i = .ok x ρ' := e
    unfold frzSl at e
    cases q : ρ[i]? with
    | none => rw [q] at e; cases e
    | some s =>
      rw [q] at e
      cases s with
      | own xs =>
        cases e
        obtain ⟨a, vs, h1, _⟩ := R.own i xs q
        rw [r] at h1; cases h1
        exact R.freeze q r
      | _ => cases e
theorem frz_noexc {h : Hd} {c : Nat} (e : frz h ρ = .exc c ρ') : False := by
  cases h with
  | d y => cases e
  | sl i =>
    have e : frzSl ρ i = .exc c ρ' := e
    unfold frzSl at e
    cases q : ρ[i]? with
    | none => rw [q] at e; cases e
    | some s => rw [q] at e; cases s <;> cases e
end

/-- what must hold behind a piece of code of result r -/
def Hold {α β : Type} (C : Kx) (F : Fc) (W : WX) (σ : L2.St) (P : Hp) (R : α → β → En → Hp → Hp → Prop) (r : Res α) (Q : β → Hp → Prop) : Prop :=
  match r with
  | .ok a ρ' => ∀ P' H' b, Same P P' → Rel C F ρ' P' σ H' → R a b ρ' P' H' → Q b H'
  | .exc c ρ' => ∀ P' H', Same P P' → Rel C F ρ' P' σ H' → W (.ref (C.cls c)) none σ H'
  | .stuck => False
section
variable {C : Kx} {F : Fc} {W : WX} {σ : L2.St} {P : Hp} {α β γ δ : Type}
theorem Hold.up {R : α → β → En → Hp → Hp → Prop} {r : Res α} {Q : β → Hp → Prop} {P1 : Hp} (h : Hold C F W σ P R r Q) (s : Same P P1) : Hold C F W σ P1 R r Q := by
  cases r with
  | ok a ρ' => exact fun P' H' b s' R' r' => h P' H' b (s.trans s') R' r'
  | exc c ρ' => exact fun P' H' s' R' => h P' H' (s.trans s') R'
  | stuck => exact h
theorem Hold.bind {R1 : α → β → En → Hp → Hp → Prop} {R2 : γ → δ → En → Hp → Hp → Prop} {m : M α} {k : α → M γ} {ρ : En} {Q : δ → Hp → Prop} (h : Hold C F W σ P R2 (M.bind m k ρ) Q) :
    Hold C F W σ P R1 (m ρ) (fun b H1 => ∃ a ρ1 P1, Same P P1 ∧ Rel C F ρ1 P1 σ H1 ∧ R1 a b ρ1 P1 H1 ∧ Hold C F W σ P1 R2 (k a ρ1) Q) := by
  unfold M.bind at h
  cases e : m ρ with
  | ok a ρ1 =>
    rw [e] at h
    exact fun P1 H1 b s1 r1 q1 => ⟨a, ρ1, P1, s1, r1, q1, Hold.up h s1⟩
  | exc c ρ1 => rw [e] at h; exact h
  | stuck => rw [e] at h; exact h
theorem Hold.imp {R : α → β → En → Hp → Hp → Prop} {r : Res α} {Q Q' : β → Hp → Prop} (h : Hold C F W σ P R r Q) (f : ∀ b H, Q b H → Q' b H) : Hold C F W σ P R r Q' := by
  cases r with
  | ok a ρ' => exact fun P' H' b s R' r' => f _ _ (h P' H' b s R' r')
  | exc c ρ' => exact h
  | stuck => exact h
end

/-- the readings -/
abbrev RH (C : Kx) (σ : L2.St) : Hd → V → En → Hp → Hp → Prop := fun h v _ P' _ => HRep C P' σ h v
abbrev RD (C : Kx) : D → V → En → Hp → Hp → Prop := fun d v _ P' _ => Rep C P' d v
abbrev RT : Bool → Bool → En → Hp → Hp → Prop := fun a b _ _ _ => a = b
def Hds (C : Kx) (P : Hp) (σ : L2.St) : List Hd → List V → Prop
  | [], vs => vs = []
  | h :: hs, vs => ∃ v r, vs = v :: r ∧ HRep C P σ h v ∧ Hds C P σ hs r
abbrev RA (C : Kx) (σ : L2.St) : List Hd → List V → En → Hp → Hp → Prop := fun h v _ P' _ => Hds C P' σ h v
/-- a new list that nobody has -/
def Fresh (C : Kx) (F : Fc) (σ : L2.St) (xs : List D) (v : V) (ρ : En) (P H : Hp) : Prop :=
  ∃ a vs, v = .ref a ∧ H a = some (.lst vs) ∧ vs.length ≤ sizeLine ∧ Reps C P xs vs ∧ P a = none ∧ F.H0 a = none ∧ ∀ (j : Nat) ys, ρ[j]? = some (.own ys) → σ[j]? = some (some (.ref a)) → False

def rdH (C : Kx) (W : WX) (m : M Hd) : TE := fun σ H Q => ∃ F ρ P, Rel C F ρ P σ H ∧ Hold C F W σ P (RH C σ) (m ρ) Q
def rdF (C : Kx) (W : WX) (m : M (List D)) : TE := fun σ H Q => ∃ F ρ P, Rel C F ρ P σ H ∧ Hold C F W σ P (Fresh C F σ) (m ρ) Q
def rdT (C : Kx) (W : WX) (m : M Bool) : TT := fun σ H Q => ∃ F ρ P, Rel C F ρ P σ H ∧ Hold C F W σ P RT (m ρ) Q
def rdA (C : Kx) (W : WX) (m : M (List Hd)) : TA := fun σ H Q => ∃ F ρ P, Rel C F ρ P σ H ∧ Hold C F W σ P (RA C σ) (m ρ) Q

/-- an expression has this meaning -/
def SndH (C : Kx) (X : Cx) (e : PySem.Expr) (m : M Hd) : Prop := ∀ W, Takes X W → PE X e (rdH C W m)
def SndF (C : Kx) (X : Cx) (e : PySem.Expr) (m : M (List D)) : Prop := ∀ W, Takes X W → PE X e (rdF C W m)
def SndT (C : Kx) (X : Cx) (e : PySem.Expr) (m : M Bool) : Prop := ∀ W, Takes X W → PT X e (rdT C W m)
def SndW (C : Kx) (X : Cx) (e : PySem.Expr) (m : M Bool) : Prop := ∀ W, Takes X W → PW X e (rdT C W m)
def SndA (C : Kx) (X : Cx) (e : List PySem.Expr) (m : M (List Hd)) : Prop := ∀ W, Takes X W → PA X e (rdA C W m)

theorem _root_.L2.PE.imp {X : Cx} {e : PySem.Expr} {t t' : TE} (h : PE X e t) (f : ∀ σ H Q, t' σ H Q → t σ H Q) : PE X e t' := ⟨fun pins s σ H Q I q => h.run pins s σ H Q I (f _ _ _ q)⟩
theorem _root_.L2.PT.imp {X : Cx} {e : PySem.Expr} {t t' : TT} (h : PT X e t) (f : ∀ σ H Q, t' σ H Q → t σ H Q) : PT X e t' := ⟨fun pins s σ H Q I q => h.run pins s σ H Q I (f _ _ _ q)⟩
theorem _root_.L2.PW.imp {X : Cx} {e : PySem.Expr} {t t' : TT} (h : PW X e t) (f : ∀ σ H Q, t' σ H Q → t σ H Q) : PW X e t' := ⟨fun wh pins s σ H Q I q => h.run wh pins s σ H Q I (f _ _ _ q)⟩
theorem _root_.L2.PA.imp {X : Cx} {e : List PySem.Expr} {t t' : TA} (h : PA X e t) (f : ∀ σ H Q, t' σ H Q → t σ H Q) : PA X e t' := ⟨fun pos pins s σ H Q I q => h.run pos pins s σ H Q I (f _ _ _ q)⟩

section
variable {C : Kx} {F : Fc} {X : Cx} {e a b c : PySem.Expr} {pos : Pos} {ma mb : M Hd}

/-! ### names, constants -/
def mVar (i : Nat) : M Hd := fun ρ => match ρ[i]? with
  | some (.d x) => .ok (.d x) ρ
  | some (.own _) => .ok (.sl i) ρ
  | some (.arg _) => .ok (.sl i) ρ
  | _ => .stuck
theorem snd_var {i : Nat} (h : PE X e (tVar i)) : SndH C X e (mVar i) := fun W tk => h.imp fun σ H Q ⟨F, ρ, P, R, q⟩ => by
  unfold mVar at q
  cases ex : ρ[i]? with
  | none => rw [ex] at q; exact q.elim
  | some s =>
    rw [ex] at q
    cases s with
    | d x =>
      obtain ⟨v, h1, h2⟩ := R.val i x ex
      exact ⟨v, h1, q P H v (Same.refl _) R h2⟩
    | own x =>
      obtain ⟨a, vs, h1, _⟩ := R.own i x ex
      exact ⟨_, h1, q P H _ (Same.refl _) R h1⟩
    | arg x =>
      obtain ⟨_, a, vs, h1, _⟩ := R.arg i x ex
      exact ⟨_, h1, q P H _ (Same.refl _) R h1⟩
    | _ => exact q.elim
def mD (x : D) : M Hd := M.pure (.d x)
/-- an expression of one value that is always the same -/
theorem snd_const {v : V} {x : D} (h : PE X e (tC v)) (r : ∀ P, Rep C P x v) : SndH C X e (mD x) := fun W tk => h.imp fun σ H Q ⟨F, ρ, P, R, q⟩ => q P H v (Same.refl _) R (r P)

/-! ### the growth of a pure operation -/
def Grow (P H P' H' : Hp) : Prop := (P' = P ∧ H' = H) ∨ ∃ p o, H p = none ∧ P' = upd P p o ∧ H' = upd H p o
theorem Grow.rel {ρ : En} {σ : L2.St} {P H P' H' : Hp} (g : Grow P H P' H') (R : Rel C F ρ P σ H) : Same P P' ∧ Rel C F ρ P' σ H' := by
  rcases g with ⟨rfl, rfl⟩ | ⟨p, o, hp, rfl, rfl⟩
  · exact ⟨Same.refl _, R⟩
  · exact ⟨(R.alloc o hp).2, (R.alloc o hp).1⟩
/-- by values: an operation that gives z of x and y -/
def Op2 (C : Kx) (r : R2) (f : D → D → Option D) : Prop := ∀ (P H : Hp) (x y z : D) (v u : V) (Q : VK), Same P H → RepB C P H x v → RepB C P H y u → f x y = some z → (∀ P' H' w, Grow P H P' H' → Rep C P' z w → Q w H') → r v u H Q
def mOp2 (f : D → D → Option D) (ma mb : M Hd) : M Hd := ma.bind fun h1 => mb.bind fun h2 => (view h1).bind fun x => (view h2).bind fun y => (M.lift (f x y)).bind fun z => M.pure (.d z)
/-- looks at two values, then the operation -/
theorem fin_op2 {r : R2} {f : D → D → Option D} (o : Op2 C r f) {W : WX} {σ : L2.St} {ρ : En} {P H : Hp} {Q : VK} {h1 h2 : Hd} {v u : V} (R : Rel C F ρ P σ H) (r1 : HRep C P σ h1 v) (r2 : HRep C P σ h2 u)
    (q : Hold C F W σ P (RH C σ) (M.bind (view h1) (fun x => M.bind (view h2) fun y => M.bind (M.lift (f x y)) fun z => M.pure (.d z)) ρ) Q) : r v u H Q := by
  unfold M.bind at q
  cases e1 : view h1 ρ with
  | ok x ρ1 =>
    obtain ⟨rfl, b1⟩ := view_ok R r1 e1
    rw [e1] at q
    dsimp only at q
    cases e2 : view h2 ρ1 with
    | ok y ρ2 =>
      obtain ⟨rfl, b2⟩ := view_ok R r2 e2
      rw [e2] at q
      dsimp only [M.lift] at q
      cases e3 : f x y with
      | some z =>
        rw [e3] at q
        refine o P H x y z v u Q R.sub b1 b2 e3 fun P' H' w g rz => ?_
        obtain ⟨s, R'⟩ := g.rel R
        exact q P' H' w s R' rz
      | none => rw [e3] at q; exact q.elim
    | exc c ρ2 => exact (view_noexc e2).elim
    | stuck => rw [e2] at q; exact q.elim
  | exc c ρ1 => exact (view_noexc e1).elim
  | stuck => rw [e1] at q; exact q.elim
theorem op2_reading {r : R2} {f : D → D → Option D} (o : Op2 C r f) {W : WX} {σ : L2.St} {H : Hp} {Q : VK} (h : rdH C W (mOp2 f ma mb) σ H Q) : tOp r (rdH C W ma) (rdH C W mb) σ H Q := by
  obtain ⟨F, ρ, P, R, q⟩ := h
  refine ⟨F, ρ, P, R, (Hold.bind (R1 := RH C σ) q).imp ?_⟩
  rintro v H1 ⟨h1, ρ1, P1, s1, R1, r1, q1⟩
  refine ⟨F, ρ1, P1, R1, (Hold.bind (R1 := RH C σ) q1).imp ?_⟩
  rintro u H2 ⟨h2, ρ2, P2, s2, R2, r2, q2⟩
  exact fin_op2 o R2 (r1.mono s2) r2 q2
theorem snd_bin {op : Operator} {r : R2} {f : D → D → Option D} (ho : OpR X (binaryOp op) r) (o : Op2 C r f) (ha : SndH C X a ma) (hb : SndH C X b mb) : SndH C X (.BinOp a op b pos) (mOp2 f ma mb) :=
  fun W tk => (pe_op ho (ha W tk) (hb W tk)).imp fun σ H Q h => op2_reading o h
theorem snd_cmp {op : CmpOp} {r : R2} {f : D → D → Option D} (ho : OpR X (compareOp op) r) (o : Op2 C r f) (hm : behindInMarks op b = false) (ha : SndH C X a ma) (hb : SndH C X b mb) : SndH C X (.Compare a [op] [b] pos) (mOp2 f ma mb) :=
  fun W tk => (pe_cmpR ho (ha W tk) (hb W tk) hm).imp fun σ H Q h => op2_reading o h
theorem snd_ix {r : R2} {f : D → D → Option D} (ho : IxR X r) (o : Op2 C r f) (hm : PlainIx b) (ha : SndH C X a ma) (hb : SndH C X b mb) : SndH C X (.Subscript a b pos) (mOp2 f ma mb) :=
  fun W tk => (pe_ix ho (ha W tk) (hb W tk) hm).imp fun σ H Q h => op2_reading o h

/-! ### tests -/
def mBool (m : M Hd) : M Bool := m.bind fun h => (view h).bind fun x => M.lift (match x with | .bl b => some b | _ => none)
theorem fin_bool {W : WX} {σ : L2.St} {ρ : En} {P H : Hp} {Q : Bool → Hp → Prop} {h : Hd} {v : V} (R : Rel C F ρ P σ H) (r : HRep C P σ h v)
    (q : Hold C F W σ P RT (M.bind (view h) (fun x => M.lift (match x with | .bl b => some b | _ => none)) ρ) Q) : ∃ k, v = .bl k ∧ Q k H := by
  unfold M.bind at q
  cases e1 : view h ρ with
  | ok x ρ1 =>
    obtain ⟨rfl, b1⟩ := view_ok R r e1
    rw [e1] at q
    dsimp only [M.lift] at q
    cases x with
    | bl b =>
      have b1 : Rep C P (.bl b) v := b1
      exact ⟨b, b1.bl, q P H b (Same.refl _) R rfl⟩
    | _ => exact q.elim
  | exc c ρ1 => exact (view_noexc e1).elim
  | stuck => rw [e1] at q; exact q.elim
/-- a comparison as a test -/
theorem snd_cmpT {op : CmpOp} {r : R2} {f : D → D → Option D} (ho : OpR X (compareOp op) r) (o : Op2 C r f) (hm : behindInMarks op b = false) (ha : SndH C X a ma) (hb : SndH C X b mb) : SndT C X (.Compare a [op] [b] pos) (mBool (mOp2 f ma mb)) :=
  fun W tk => (pt_cmpR ho (ha W tk) (hb W tk) hm).imp fun σ H Q ⟨F, ρ, P, R, q⟩ => by
    refine op2_reading o ⟨F, ρ, P, R, (Hold.bind (R1 := RH C σ) q).imp ?_⟩
    rintro v H1 ⟨h1, ρ1, P1, s1, R1, r1, q1⟩
    exact fin_bool R1 r1 q1
def truth : D → Option Bool
  | .non => some false
  | .bl b => some b
  | .int i => some (i != 0)
  | .str x => if x.length ≤ sizeLine then some ((x.length : Int) != 0) else none
  | .tup xs => some (!xs.isEmpty)
  | .lst xs => some (!xs.isEmpty)
  | .ro xs => some (!xs.isEmpty)
  | .obj _ _ => none
  | .cl _ => none
def mTruth (m : M Hd) : M Bool := m.bind fun h => (view h).bind fun x => M.lift (truth x)
theorem truV {P H : Hp} {x : D} {v : V} {k : Bool} (s : Same P H) (b : RepB C P H x v) (e : truth x = some k) : TruV C.K v H k := by
  cases x with
  | non => have b : Rep C P .non v := b; rw [b.non]; cases e; rfl
  | bl x => have b : Rep C P (.bl x) v := b; rw [b.bl]; cases e; rfl
  | int x => have b : Rep C P (.int x) v := b; rw [b.int]; cases e; rfl
  | str x =>
    have b : Rep C P (.str x) v := b
    rw [b.str]
    have e : (if x.length ≤ sizeLine then some ((x.length : Int) != 0) else none) = some k := e
    by_cases hz : x.length ≤ sizeLine
    · rw [if_pos hz] at e; cases e; exact ⟨hz, rfl⟩
    · rw [if_neg hz] at e; cases e
  | tup xs =>
    have b : Rep C P (.tup xs) v := b
    rw [Rep] at b
    obtain ⟨a, vs, rfl, h1, h2, h3⟩ := b
    cases e
    refine .inr (.inl ⟨vs, Same.seqT s h1, ?_⟩)
    have := h3.length
    cases xs <;> cases vs <;> simp at this ⊢
  | lst xs =>
    obtain ⟨a, vs, rfl, h1, h2, h3⟩ := b
    cases e
    refine .inl ⟨vs, SqL.of h1, ?_⟩
    have := h3.length
    cases xs <;> cases vs <;> simp at this ⊢
  | ro xs =>
    obtain ⟨a, vs, rfl, h1, h2, h3⟩ := b
    cases e
    refine .inl ⟨vs, h1, ?_⟩
    have := h3.length
    cases xs <;> cases vs <;> simp at this ⊢
  | obj c fs => cases e
  | cl c => cases e
theorem fin_truth {W : WX} {σ : L2.St} {ρ : En} {P H : Hp} {Q : Bool → Hp → Prop} {h : Hd} {v : V} (R : Rel C F ρ P σ H) (r : HRep C P σ h v)
    (q : Hold C F W σ P RT (M.bind (view h) (fun x => M.lift (truth x)) ρ) Q) : ∃ k, TruV C.K v H k ∧ Q k H := by
  unfold M.bind at q
  cases e1 : view h ρ with
  | ok x ρ1 =>
    obtain ⟨rfl, b1⟩ := view_ok R r e1
    rw [e1] at q
    dsimp only [M.lift] at q
    cases e2 : truth x with
    | some k => rw [e2] at q; exact ⟨k, truV R.sub b1 e2, q P H k (Same.refl _) R rfl⟩
    | none => rw [e2] at q; exact q.elim
  | exc c ρ1 => exact (view_noexc e1).elim
  | stuck => rw [e1] at q; exact q.elim
theorem snd_truth (hK : X.K = C.K) (he : ∀ whole, isTrue a X.env whole = (do let v ← whole; standAt a.pos; holding [v] (truthy v))) (ha : SndH C X a ma) : SndT C X a (mTruth ma) :=
  fun W tk => (pt_truth (ha W tk) he).imp fun σ H Q ⟨F, ρ, P, R, q⟩ => by
    refine ⟨F, ρ, P, R, (Hold.bind (R1 := RH C σ) q).imp ?_⟩
    rintro v H1 ⟨h1, ρ1, P1, s1, R1, r1, q1⟩
    obtain ⟨k, h1, h2⟩ := fin_truth R1 r1 q1
    exact ⟨k, by rw [hK]; exact h1, h2⟩
variable {ta tb : M Bool} {rest : List PySem.Expr}
def mNot (t : M Bool) : M Bool := t.bind fun b => M.pure (!b)
def mAnd (t u : M Bool) : M Bool := t.bind fun b => if b = true then u else M.pure false
def mOr (t u : M Bool) : M Bool := t.bind fun b => if b = true then M.pure true else u
theorem snd_notT (ha : SndT C X a ta) : SndT C X (.UnaryOp .Not a pos) (mNot ta) := fun W tk => (pt_not (ha W tk)).imp fun σ H Q ⟨F, ρ, P, R, q⟩ => by
  refine ⟨F, ρ, P, R, (Hold.bind (R1 := RT) q).imp ?_⟩
  rintro v H1 ⟨h1, ρ1, P1, s1, R1, rfl, q1⟩
  exact q1 P1 H1 _ (Same.refl _) R1 rfl
theorem snd_andT1 (ha : SndT C X a ta) : SndW C X (.BoolOp .And [a] pos) ta := fun W tk => pw_and1 (ha W tk)
theorem snd_orT1 (ha : SndT C X a ta) : SndW C X (.BoolOp .Or [a] pos) ta := fun W tk => pw_or1 (ha W tk)
theorem snd_andT (ha : SndT C X a ta) (hb : SndW C X (.BoolOp .And (b :: rest) pos) tb) : SndW C X (.BoolOp .And (a :: b :: rest) pos) (mAnd ta tb) := fun W tk => (pw_and (ha W tk) (hb W tk)).imp fun σ H Q ⟨F, ρ, P, R, q⟩ => by
  refine ⟨F, ρ, P, R, (Hold.bind (R1 := RT) q).imp ?_⟩
  rintro v H1 ⟨h1, ρ1, P1, s1, R1, rfl, q1⟩
  cases h1 with
  | true => exact ⟨F, ρ1, P1, R1, q1⟩
  | false => exact q1 P1 H1 _ (Same.refl _) R1 rfl
theorem snd_orT (ha : SndT C X a ta) (hb : SndW C X (.BoolOp .Or (b :: rest) pos) tb) : SndW C X (.BoolOp .Or (a :: b :: rest) pos) (mOr ta tb) := fun W tk => (pw_or (ha W tk) (hb W tk)).imp fun σ H Q ⟨F, ρ, P, R, q⟩ => by
  refine ⟨F, ρ, P, R, (Hold.bind (R1 := RT) q).imp ?_⟩
  rintro v H1 ⟨h1, ρ1, P1, s1, R1, rfl, q1⟩
  cases h1 with
  | false => exact ⟨F, ρ1, P1, R1, q1⟩
  | true => exact q1 P1 H1 _ (Same.refl _) R1 rfl
theorem SndW.t (h : SndW C X a ta) : SndT C X a ta := fun W tk => (h W tk).pt
def mIf (t : M Bool) (x y : M Hd) : M Hd := t.bind fun b => if b = true then x else y
theorem snd_if (hc : SndT C X c ta) (ha : SndH C X a ma) (hb : SndH C X b mb) : SndH C X (.IfExp c a b pos) (mIf ta ma mb) := fun W tk => (pe_ifExp (hc W tk) (ha W tk) (hb W tk)).imp fun σ H Q ⟨F, ρ, P, R, q⟩ => by
  refine ⟨F, ρ, P, R, (Hold.bind (R1 := RT) q).imp ?_⟩
  rintro v H1 ⟨h1, ρ1, P1, s1, R1, rfl, q1⟩
  cases h1 with
  | true => exact ⟨F, ρ1, P1, R1, q1⟩
  | false => exact ⟨F, ρ1, P1, R1, q1⟩
/-! ### and, or, not as values -/
def mNotV (t : M Hd) : M Hd := (mBool t).bind fun b => M.pure (.d (.bl !b))
def mAndV (t u : M Hd) : M Hd := (mBool t).bind fun b => if b = true then u else M.pure (.d (.bl false))
def mOrV (t u : M Hd) : M Hd := (mBool t).bind fun b => if b = true then M.pure (.d (.bl true)) else u
theorem M.assoc {α β γ : Type} (m : M α) (k : α → M β) (l : β → M γ) : (m.bind k).bind l = m.bind fun a => (k a).bind l := by
  funext ρ
  unfold M.bind
  cases m ρ <;> rfl
/-- a bool is looked at, then the rest -/
theorem fin_boolK {γ δ : Type} {R2 : γ → δ → En → Hp → Hp → Prop} {W : WX} {σ : L2.St} {ρ : En} {P H : Hp} {Q : δ → Hp → Prop} {h : Hd} {v : V} {k : Bool → M γ} (R : Rel C F ρ P σ H) (r : HRep C P σ h v)
    (q : Hold C F W σ P R2 (M.bind (view h) (fun x => M.bind (M.lift (match x with | .bl b => some b | _ => none)) k) ρ) Q) : ∃ b, v = .bl b ∧ Hold C F W σ P R2 (k b ρ) Q := by
  unfold M.bind at q
  cases e1 : view h ρ with
  | ok x ρ1 =>
    obtain ⟨rfl, b1⟩ := view_ok R r e1
    rw [e1] at q
    dsimp only [M.lift] at q
    cases x with
    | bl b => exact ⟨b, (show Rep C P (.bl b) v from b1).bl, q⟩
    | _ => exact q.elim
  | exc c ρ1 => exact (view_noexc e1).elim
  | stuck => rw [e1] at q; exact q.elim
theorem snd_notV (ha : SndH C X a ma) : SndH C X (.UnaryOp .Not a pos) (mNotV ma) := fun W tk => (pe_not (ha W tk)).imp fun σ H Q ⟨F, ρ, P, R, q⟩ => by
  unfold mNotV mBool at q
  rw [M.assoc] at q
  refine ⟨F, ρ, P, R, (Hold.bind (R1 := RH C σ) q).imp ?_⟩
  rintro v H1 ⟨h1, ρ1, P1, s1, R1, r1, q1⟩
  rw [M.assoc] at q1
  obtain ⟨b, e, q2⟩ := fin_boolK R1 r1 q1
  exact ⟨b, e, q2 P1 H1 _ (Same.refl _) R1 (show Rep C P1 (.bl !b) _ from Rep.ofBl)⟩
theorem snd_one {op} (ha : SndH C X a ma) : SndH C X (.BoolOp op [a] pos) ma := fun W tk => pe_one (ha W tk)
theorem snd_andV (ha : SndH C X a ma) (hb : SndH C X (.BoolOp .And (b :: rest) pos) mb) : SndH C X (.BoolOp .And (a :: b :: rest) pos) (mAndV ma mb) := fun W tk => (pe_and (ha W tk) (hb W tk)).imp fun σ H Q ⟨F, ρ, P, R, q⟩ => by
  unfold mAndV mBool at q
  rw [M.assoc] at q
  refine ⟨F, ρ, P, R, (Hold.bind (R1 := RH C σ) q).imp ?_⟩
  rintro v H1 ⟨h1, ρ1, P1, s1, R1, r1, q1⟩
  rw [M.assoc] at q1
  obtain ⟨b, e, q2⟩ := fin_boolK R1 r1 q1
  refine ⟨b, e, ?_⟩
  cases b with
  | true => exact ⟨F, ρ1, P1, R1, q2⟩
  | false => exact q2 P1 H1 _ (Same.refl _) R1 (show Rep C P1 (.bl _) _ from Rep.ofBl)
theorem snd_orV (ha : SndH C X a ma) (hb : SndH C X (.BoolOp .Or (b :: rest) pos) mb) : SndH C X (.BoolOp .Or (a :: b :: rest) pos) (mOrV ma mb) := fun W tk => (pe_or (ha W tk) (hb W tk)).imp fun σ H Q ⟨F, ρ, P, R, q⟩ => by
  unfold mOrV mBool at q
  rw [M.assoc] at q
  refine ⟨F, ρ, P, R, (Hold.bind (R1 := RH C σ) q).imp ?_⟩
  rintro v H1 ⟨h1, ρ1, P1, s1, R1, r1, q1⟩
  rw [M.assoc] at q1
  obtain ⟨b, e, q2⟩ := fin_boolK R1 r1 q1
  refine ⟨b, e, ?_⟩
  cases b with
  | false => exact ⟨F, ρ1, P1, R1, q2⟩
  | true => exact q2 P1 H1 _ (Same.refl _) R1 (show Rep C P1 (.bl _) _ from Rep.ofBl)
end
end VL

set_option Elab.async false
set_option linter.all false
set_option maxRecDepth 100000
set_option maxHeartbeats 4000000
/-! VL3: arguments, calls of built-in functions and of defs, displays, new lists. -/
namespace VL
open PySem PySem.Spec L2

section
variable {C : Kx} {F : Fc} {X : Cx} {e a b c : PySem.Expr} {es : List PySem.Expr} {pos : Pos} {ma mb : M Hd} {ms : M (List Hd)}

theorem Hds.mono {P P' : Hp} {σ : L2.St} (s : Same P P') : ∀ {hs : List Hd} {vs : List V}, Hds C P σ hs vs → Hds C P' σ hs vs
  | [], _, h => h
  | h :: hs, _, ⟨v, r, e, h1, h2⟩ => ⟨v, r, e, h1.mono s, Hds.mono s h2⟩
theorem Hds.length {P : Hp} {σ : L2.St} : ∀ {hs : List Hd} {vs : List V}, Hds C P σ hs vs → hs.length = vs.length
  | [], _, h => by cases h; rfl
  | h :: hs, _, ⟨v, r, e, h1, h2⟩ => by rw [e]; simp [Hds.length h2]

/-! ### arguments -/
def mNil : M (List Hd) := M.pure []
def mCons (m : M Hd) (ms : M (List Hd)) : M (List Hd) := m.bind fun h => ms.bind fun hs => M.pure (h :: hs)
theorem sndA_nil : SndA C X [] mNil := fun W tk => pa_nil.imp fun σ H Q ⟨F, ρ, P, R, q⟩ => q P H [] (Same.refl _) R rfl
theorem sndA_cons (ha : SndH C X e ma) (hr : SndA C X es ms) (hs : starEach (e :: es) X.env = (false, eval e X.env) :: starEach es X.env) : SndA C X (e :: es) (mCons ma ms) :=
  fun W tk => (pa_cons (ha W tk) (hr W tk) hs).imp fun σ H Q ⟨F, ρ, P, R, q⟩ => by
    refine ⟨F, ρ, P, R, (Hold.bind (R1 := RH C σ) q).imp ?_⟩
    rintro v H1 ⟨h1, ρ1, P1, s1, R1, r1, q1⟩
    refine ⟨F, ρ1, P1, R1, (Hold.bind (R1 := RA C σ) q1).imp ?_⟩
    rintro vs H2 ⟨h2, ρ2, P2, s2, R2, r2, q2⟩
    exact q2 P2 H2 _ (Same.refl _) R2 ⟨v, vs, rfl, HRep.mono s2 r1, r2⟩
def viewAll : List Hd → M (List D)
  | [] => M.pure []
  | h :: hs => (view h).bind fun x => (viewAll hs).bind fun xs => M.pure (x :: xs)
def frzAll : List Hd → M (List D)
  | [] => M.pure []
  | h :: hs => (frz h).bind fun x => (frzAll hs).bind fun xs => M.pure (x :: xs)
def RepBs (C : Kx) (P H : Hp) : List D → List V → Prop
  | [], vs => vs = []
  | x :: xs, vs => ∃ v r, vs = v :: r ∧ RepB C P H x v ∧ RepBs C P H xs r
theorem viewAll_ok {P H : Hp} {σ : L2.St} {ρ : En} (R : Rel C F ρ P σ H) : ∀ {hs : List Hd} {vs : List V} {xs : List D} {ρ' : En}, Hds C P σ hs vs → viewAll hs ρ = .ok xs ρ' → ρ' = ρ ∧ RepBs C P H xs vs
  | [], vs, xs, ρ', h, e => by cases h; cases e; exact ⟨rfl, rfl⟩
  | h :: hs, vs, xs, ρ', ⟨v, r, ev, h1, h2⟩, e => by
    unfold viewAll M.bind at e
    cases e1 : view h ρ with
    | ok x ρ1 =>
      obtain ⟨rfl, b1⟩ := view_ok R h1 e1
      rw [e1] at e
      dsimp only at e
      cases e2 : viewAll hs ρ1 with
      | ok ys ρ2 =>
        obtain ⟨rfl, b2⟩ := viewAll_ok R h2 e2
        rw [e2] at e
        cases e
        exact ⟨rfl, v, r, ev, b1, b2⟩
      | exc c ρ2 => rw [e2] at e; cases e
      | stuck => rw [e2] at e; cases e
    | exc c ρ1 => rw [e1] at e; cases e
    | stuck => rw [e1] at e; cases e
theorem viewAll_noexc {ρ ρ' : En} {c : Nat} : ∀ {hs : List Hd}, viewAll hs ρ = .exc c ρ' → False
  | [], e => by cases e
  | h :: hs, e => by
    unfold viewAll M.bind at e
    cases e1 : view h ρ with
    | ok x ρ1 =>
      have : ρ1 = ρ := by
        cases h with
        | d y => cases e1; rfl
        | sl i =>
          have e1 : viewSl ρ i = .ok x ρ1 := e1
          unfold viewSl at e1
          cases q : ρ[i]? with
          | none => rw [q] at e1; cases e1
          | some s => rw [q] at e1; cases s <;> cases e1 <;> rfl
      subst this
      rw [e1] at e
      dsimp only at e
      cases e2 : viewAll hs ρ1 with
      | ok ys ρ2 => rw [e2] at e; cases e
      | exc c ρ2 => exact viewAll_noexc e2
      | stuck => rw [e2] at e; cases e
    | exc c ρ1 => exact view_noexc e1
    | stuck => rw [e1] at e; cases e
theorem frzAll_ok {H : Hp} {σ : L2.St} : ∀ {hs : List Hd} {P : Hp} {ρ : En} {vs : List V} {xs : List D} {ρ' : En}, Rel C F ρ P σ H → Hds C P σ hs vs → frzAll hs ρ = .ok xs ρ' → ∃ P', Same P P' ∧ Rel C F ρ' P' σ H ∧ Reps C P' xs vs
  | [], P, ρ, vs, xs, ρ', R, h, e => by cases h; cases e; exact ⟨P, Same.refl _, R, Reps.nil⟩
  | h :: hs, P, ρ, vs, xs, ρ', R, ⟨v, r, ev, h1, h2⟩, e => by
    unfold frzAll M.bind at e
    cases e1 : frz h ρ with
    | ok x ρ1 =>
      obtain ⟨P1, s1, R1, b1⟩ := frz_ok R h1 e1
      rw [e1] at e
      dsimp only at e
      cases e2 : frzAll hs ρ1 with
      | ok ys ρ2 =>
        obtain ⟨P2, s2, R2, b2⟩ := frzAll_ok R1 (h2.mono s1) e2
        rw [e2] at e
        cases e
        rw [ev]
        exact ⟨P2, s1.trans s2, R2, Reps.cons (b1.mono s2) b2⟩
      | exc c ρ2 => rw [e2] at e; cases e
      | stuck => rw [e2] at e; cases e
    | exc c ρ1 => rw [e1] at e; cases e
    | stuck => rw [e1] at e; cases e
theorem frzAll_noexc {ρ' : En} {c : Nat} : ∀ {hs : List Hd} {ρ : En}, frzAll hs ρ = .exc c ρ' → False
  | [], _, e => by cases e
  | h :: hs, ρ, e => by
    unfold frzAll M.bind at e
    cases e1 : frz h ρ with
    | ok x ρ1 =>
      rw [e1] at e
      dsimp only at e
      cases e2 : frzAll hs ρ1 with
      | ok ys ρ2 => rw [e2] at e; cases e
      | exc c ρ2 => exact frzAll_noexc e2
      | stuck => rw [e2] at e; cases e
    | exc c ρ1 => exact frz_noexc e1
    | stuck => rw [e1] at e; cases e
/-- the looks come first, then the rest -/
theorem Hold.viewAll {γ δ : Type} {R2 : γ → δ → En → Hp → Hp → Prop} {W : WX} {σ : L2.St} {ρ : En} {P H : Hp} {Q : δ → Hp → Prop} {hs : List Hd} {vs : List V} {k : List D → M γ} (R : Rel C F ρ P σ H) (r : Hds C P σ hs vs)
    (q : Hold C F W σ P R2 (M.bind (VL.viewAll hs) k ρ) Q) : ∃ xs, RepBs C P H xs vs ∧ Hold C F W σ P R2 (k xs ρ) Q := by
  unfold M.bind at q
  cases e1 : VL.viewAll hs ρ with
  | ok xs ρ1 =>
    obtain ⟨rfl, b1⟩ := viewAll_ok R r e1
    rw [e1] at q
    exact ⟨xs, b1, q⟩
  | exc c ρ1 => exact (viewAll_noexc e1).elim
  | stuck => rw [e1] at q; exact q.elim
theorem Hold.frzAll {γ δ : Type} {R2 : γ → δ → En → Hp → Hp → Prop} {W : WX} {σ : L2.St} {ρ : En} {P H : Hp} {Q : δ → Hp → Prop} {hs : List Hd} {vs : List V} {k : List D → M γ} (R : Rel C F ρ P σ H) (r : Hds C P σ hs vs)
    (q : Hold C F W σ P R2 (M.bind (VL.frzAll hs) k ρ) Q) : ∃ xs ρ' P', Same P P' ∧ Rel C F ρ' P' σ H ∧ Reps C P' xs vs ∧ Hold C F W σ P' R2 (k xs ρ') Q := by
  unfold M.bind at q
  cases e1 : VL.frzAll hs ρ with
  | ok xs ρ1 =>
    obtain ⟨P1, s1, R1, b1⟩ := frzAll_ok R r e1
    rw [e1] at q
    exact ⟨xs, ρ1, P1, s1, R1, b1, Hold.up q s1⟩
  | exc c ρ1 => exact (frzAll_noexc e1).elim
  | stuck => rw [e1] at q; exact q.elim
theorem Hold.frz {γ δ : Type} {R2 : γ → δ → En → Hp → Hp → Prop} {W : WX} {σ : L2.St} {ρ : En} {P H : Hp} {Q : δ → Hp → Prop} {h : Hd} {v : V} {k : D → M γ} (R : Rel C F ρ P σ H) (r : HRep C P σ h v)
    (q : Hold C F W σ P R2 (M.bind (VL.frz h) k ρ) Q) : ∃ x ρ' P', Same P P' ∧ Rel C F ρ' P' σ H ∧ Rep C P' x v ∧ Hold C F W σ P' R2 (k x ρ') Q := by
  unfold M.bind at q
  cases e1 : VL.frz h ρ with
  | ok x ρ1 =>
    obtain ⟨P1, s1, R1, b1⟩ := frz_ok R r e1
    rw [e1] at q
    exact ⟨x, ρ1, P1, s1, R1, b1, Hold.up q s1⟩
  | exc c ρ1 => exact (frz_noexc e1).elim
  | stuck => rw [e1] at q; exact q.elim
theorem Hold.view {γ δ : Type} {R2 : γ → δ → En → Hp → Hp → Prop} {W : WX} {σ : L2.St} {ρ : En} {P H : Hp} {Q : δ → Hp → Prop} {h : Hd} {v : V} {k : D → M γ} (R : Rel C F ρ P σ H) (r : HRep C P σ h v)
    (q : Hold C F W σ P R2 (M.bind (VL.view h) k ρ) Q) : ∃ x, RepB C P H x v ∧ Hold C F W σ P R2 (k x ρ) Q := by
  unfold M.bind at q
  cases e1 : VL.view h ρ with
  | ok x ρ1 =>
    obtain ⟨rfl, b1⟩ := view_ok R r e1
    rw [e1] at q
    exact ⟨x, b1, q⟩
  | exc c ρ1 => exact (view_noexc e1).elim
  | stuck => rw [e1] at q; exact q.elim
theorem Hold.lift {α γ δ : Type} {R2 : γ → δ → En → Hp → Hp → Prop} {W : WX} {σ : L2.St} {ρ : En} {P : Hp} {Q : δ → Hp → Prop} {o : Option α} {k : α → M γ}
    (q : Hold C F W σ P R2 (M.bind (M.lift o) k ρ) Q) : ∃ x, o = some x ∧ Hold C F W σ P R2 (k x ρ) Q := by
  unfold M.bind M.lift at q
  cases o with
  | some x => exact ⟨x, rfl, q⟩
  | none => exact q.elim

/-! ### an operation on values whose result is data -/
def OpN (C : Kx) (r : List V → Hp → VK → Prop) (f : List D → Option D) : Prop := ∀ (P H : Hp) (xs : List D) (z : D) (vs : List V) (Q : VK), Same P H → RepBs C P H xs vs → f xs = some z → (∀ P' H' w, Grow P H P' H' → Rep C P' z w → Q w H') → r vs H Q
def mOpN (f : List D → Option D) (ms : M (List Hd)) : M Hd := ms.bind fun hs => (viewAll hs).bind fun xs => (M.lift (f xs)).bind fun z => M.pure (.d z)
theorem opN_reading {r : List V → Hp → VK → Prop} {f : List D → Option D} (o : OpN C r f) {W : WX} {σ : L2.St} {H : Hp} {Q : VK} (h : rdH C W (mOpN f ms) σ H Q) : tCB r (rdA C W ms) σ H Q := by
  obtain ⟨F, ρ, P, R, q⟩ := h
  refine ⟨F, ρ, P, R, (Hold.bind (R1 := RA C σ) q).imp ?_⟩
  rintro v H1 ⟨h1, ρ1, P1, s1, R1, r1, q1⟩
  obtain ⟨xs, b, q2⟩ := Hold.viewAll R1 r1 q1
  obtain ⟨z, ez, q3⟩ := Hold.lift q2
  refine o P1 H1 xs z v Q R1.sub b ez fun P' H' w g rz => ?_
  obtain ⟨s, R'⟩ := g.rel R1
  exact q3 P' H' w s R' rz
theorem snd_callB {x : Str} {p : Pos} {id : String} {r : List V → Hp → VK → Prop} {f : List D → Option D} (hc : CallR X (.builtin id) r) (o : OpN C r f) (hg : Gl X x) (hm : X.mg x = none) (hv : bootBuiltins x = some (.builtin id)) (ha : SndA C X (e :: es) ms)
    (hn : x ≠ "__name__") (hdb : (x == ("__debug__" : Str)) = false) (he : starEach (e :: es) X.env = (false, eval e X.env) :: starEach es X.env) (hpl : (backTo pos (starEach es X.env)).any (·.1) = false) :
    SndH C X (.Call (.Name x p) (e :: es) [] pos) (mOpN f ms) := fun W tk => (pe_callB hc hg hm hv (ha W tk) hn hdb he hpl).imp fun σ H Q h => opN_reading o h
theorem snd_callTy {x : Str} {p : Pos} {id : String} {r : List V → Hp → VK → Prop} {f : List D → Option D} (hc : CallR X (.type id) r) (o : OpN C r f) (hg : Gl X x) (hm : X.mg x = none) (hv : bootBuiltins x = some (.type id)) (ha : SndA C X (e :: es) ms)
    (hn : x ≠ "__name__") (hdb : (x == ("__debug__" : Str)) = false) (he : starEach (e :: es) X.env = (false, eval e X.env) :: starEach es X.env) (hpl : (backTo pos (starEach es X.env)).any (·.1) = false) :
    SndH C X (.Call (.Name x p) (e :: es) [] pos) (mOpN f ms) := fun W tk => (pe_callTy hc hg hm hv (ha W tk) hn hdb he hpl).imp fun σ H Q h => opN_reading o h
/-! ### .. whose result is a new list -/
def OpF (C : Kx) (r : List V → Hp → VK → Prop) (f : List D → Option (List D)) : Prop := ∀ (P H : Hp) (xs : List D) (zs : List D) (vs : List V) (Q : VK), Same P H → RepBs C P H xs vs → f xs = some zs →
  (∀ p us, H p = none → us.length ≤ sizeLine → Reps C P zs us → Q (.ref p) (upd H p (.lst us))) → r vs H Q
def mOpF (f : List D → Option (List D)) (ms : M (List Hd)) : M (List D) := ms.bind fun hs => (viewAll hs).bind fun xs => M.lift (f xs)
theorem Hold.liftE {α δ : Type} {R2 : α → δ → En → Hp → Hp → Prop} {W : WX} {σ : L2.St} {ρ : En} {P : Hp} {Q : δ → Hp → Prop} {o : Option α}
    (q : Hold C F W σ P R2 (M.lift o ρ) Q) : ∃ x, o = some x ∧ Hold C F W σ P R2 (.ok x ρ) Q := by
  unfold M.lift at q
  cases o with
  | some x => exact ⟨x, rfl, q⟩
  | none => exact q.elim
/-- a list that was just laid is fresh -/
theorem Rel.fresh {σ : L2.St} {ρ : En} {P H : Hp} {p : Addr} {us : List V} {zs : List D} (R : Rel C F ρ P σ H) (hp : H p = none) (hl : us.length ≤ sizeLine) (r : Reps C P zs us) :
    Rel C F ρ P σ (upd H p (.lst us)) ∧ Fresh C F σ zs (.ref p) ρ P (upd H p (.lst us)) :=
  ⟨R.lay _ hp, p, us, rfl, upd_same, hl, r, R.pnone hp, R.there p hp, fun j ys e1 e2 => by
    obtain ⟨a, vs, h1, h2, _⟩ := R.own j ys e1
    rw [e2] at h1; cases h1
    rw [hp] at h2; cases h2⟩
theorem opF_reading {r : List V → Hp → VK → Prop} {f : List D → Option (List D)} (o : OpF C r f) {W : WX} {σ : L2.St} {H : Hp} {Q : VK} (h : rdF C W (mOpF f ms) σ H Q) : tCB r (rdA C W ms) σ H Q := by
  obtain ⟨F, ρ, P, R, q⟩ := h
  refine ⟨F, ρ, P, R, (Hold.bind (R1 := RA C σ) q).imp ?_⟩
  rintro v H1 ⟨h1, ρ1, P1, s1, R1, r1, q1⟩
  obtain ⟨xs, b, q2⟩ := Hold.viewAll R1 r1 q1
  obtain ⟨z, ez, q3⟩ := Hold.liftE q2
  refine o P1 H1 xs z v Q R1.sub b ez fun p us hp hl rz => ?_
  obtain ⟨R', f'⟩ := R1.fresh hp hl rz
  exact q3 P1 _ _ (Same.refl _) R' f'
theorem sndF_callB {x : Str} {p : Pos} {id : String} {r : List V → Hp → VK → Prop} {f : List D → Option (List D)} (hc : CallR X (.builtin id) r) (o : OpF C r f) (hg : Gl X x) (hm : X.mg x = none) (hv : bootBuiltins x = some (.builtin id)) (ha : SndA C X (e :: es) ms)
    (hn : x ≠ "__name__") (hdb : (x == ("__debug__" : Str)) = false) (he : starEach (e :: es) X.env = (false, eval e X.env) :: starEach es X.env) (hpl : (backTo pos (starEach es X.env)).any (·.1) = false) :
    SndF C X (.Call (.Name x p) (e :: es) [] pos) (mOpF f ms) := fun W tk => (pe_callB hc hg hm hv (ha W tk) hn hdb he hpl).imp fun σ H Q h => opF_reading o h
theorem sndF_callTy {x : Str} {p : Pos} {id : String} {r : List V → Hp → VK → Prop} {f : List D → Option (List D)} (hc : CallR X (.type id) r) (o : OpF C r f) (hg : Gl X x) (hm : X.mg x = none) (hv : bootBuiltins x = some (.type id)) (ha : SndA C X (e :: es) ms)
    (hn : x ≠ "__name__") (hdb : (x == ("__debug__" : Str)) = false) (he : starEach (e :: es) X.env = (false, eval e X.env) :: starEach es X.env) (hpl : (backTo pos (starEach es X.env)).any (·.1) = false) :
    SndF C X (.Call (.Name x p) (e :: es) [] pos) (mOpF f ms) := fun W tk => (pe_callTy hc hg hm hv (ha W tk) hn hdb he hpl).imp fun σ H Q h => opF_reading o h
/-- a binary operation whose result is a new list -/
def Op2F (C : Kx) (r : R2) (f : D → D → Option (List D)) : Prop := ∀ (P H : Hp) (x y : D) (zs : List D) (v u : V) (Q : VK), Same P H → RepB C P H x v → RepB C P H y u → f x y = some zs →
  (∀ p us, H p = none → us.length ≤ sizeLine → Reps C P zs us → Q (.ref p) (upd H p (.lst us))) → r v u H Q
def mOp2F (f : D → D → Option (List D)) (ma mb : M Hd) : M (List D) := ma.bind fun h1 => mb.bind fun h2 => (view h1).bind fun x => (view h2).bind fun y => M.lift (f x y)
theorem sndF_bin {op : Operator} {r : R2} {f : D → D → Option (List D)} (ho : OpR X (binaryOp op) r) (o : Op2F C r f) (ha : SndH C X a ma) (hb : SndH C X b mb) : SndF C X (.BinOp a op b pos) (mOp2F f ma mb) :=
  fun W tk => (pe_op ho (ha W tk) (hb W tk)).imp fun σ H Q ⟨F, ρ, P, R, q⟩ => by
    refine ⟨F, ρ, P, R, (Hold.bind (R1 := RH C σ) q).imp ?_⟩
    rintro v H1 ⟨h1, ρ1, P1, s1, R1, r1, q1⟩
    refine ⟨F, ρ1, P1, R1, (Hold.bind (R1 := RH C σ) q1).imp ?_⟩
    rintro u H2 ⟨h2, ρ2, P2, s2, R2, r2, q2⟩
    obtain ⟨x, bx, q3⟩ := Hold.view R2 (r1.mono s2) q2
    obtain ⟨y, b_y, q4⟩ := Hold.view R2 r2 q3
    obtain ⟨z, ez, q5⟩ := Hold.liftE q4
    refine o P2 H2 x y z v u Q R2.sub bx b_y ez fun p us hp hl rz => ?_
    obtain ⟨R', f'⟩ := R2.fresh hp hl rz
    exact q5 P2 _ _ (Same.refl _) R' f'
/-! ### a new list, frozen at once -/
def mFrzF (m : M (List D)) : M Hd := m.bind fun xs => M.pure (.d (.lst xs))
theorem Rel.frzFresh {σ : L2.St} {ρ : En} {P H : Hp} {xs : List D} {v : V} (R : Rel C F ρ P σ H) (f : Fresh C F σ xs v ρ P H) : ∃ P', Same P P' ∧ Rel C F ρ P' σ H ∧ Rep C P' (.lst xs) v := by
  obtain ⟨a, vs, rfl, ha, hl, hr, hP, h0, hn⟩ := f
  have sP : Same P (upd P a (.lst vs)) := same_upd hP
  refine ⟨upd P a (.lst vs), sP, ⟨R.len, fun b u q => ?_, fun b hb => ?_, R.frame, R.there, fun b u q => ?_, fun j y q => ?_, fun j ws q => ?_, fun j ws q => ?_, fun j c fs q => ?_, R.dist⟩, ?_⟩
  · by_cases t : b = a
    · subst t; rw [upd_same] at q; cases q; exact ha
    · rw [upd_ne t] at q; exact R.sub b u q
  · have t : b ≠ a := fun t => by subst t; exact (R.nex b hb).2 h0
    rw [upd_ne t]; exact R.nex b hb
  · by_cases t : b = a
    · subst t; exact .inr h0
    · rw [upd_ne t] at q; exact R.old b u q
  · obtain ⟨v, k1, k2⟩ := R.val j y q
    exact ⟨v, k1, k2.mono sP⟩
  · obtain ⟨b, us, k1, k2, k3, k4, k5, k6⟩ := R.own j ws q
    have t : b ≠ a := fun t => by subst t; exact hn j ws q k1
    exact ⟨b, us, k1, k2, k3, k4.mono sP, by rw [upd_ne t]; exact k5, k6⟩
  · obtain ⟨k0, b, us, k1, k2, k3, k4, k5⟩ := R.arg j ws q
    exact ⟨k0, b, us, k1, k2, k3, k4, k5.mono sP⟩
  · obtain ⟨k0, b, dx, us, k1, k2, k3, k4, k5, k6⟩ := R.cns j c fs q
    exact ⟨k0, b, dx, us, k1, k2, k3, k4, k5, fun l x el => let ⟨v, w1, w2⟩ := k6 l x el; ⟨v, w1, w2.mono sP⟩⟩
  · rw [Rep]
    exact ⟨a, vs, rfl, upd_same, hl, hr.mono sP⟩
theorem snd_frzF {m : M (List D)} (h : SndF C X e m) : SndH C X e (mFrzF m) := fun W tk => (h W tk).imp fun σ H Q ⟨F, ρ, P, R, q⟩ => by
  refine ⟨F, ρ, P, R, (Hold.bind (R1 := Fresh C F σ) q).imp ?_⟩
  rintro v H1 ⟨xs, ρ1, P1, s1, R1, f1, q1⟩
  obtain ⟨P2, s2, R2, r2⟩ := R1.frzFresh f1
  exact q1 P2 H1 v s2 R2 r2
/-- a slot's list is frozen -/
def mFrz (m : M Hd) : M Hd := m.bind fun h => (frz h).bind fun x => M.pure (.d x)
theorem snd_frz (h : SndH C X e ma) : SndH C X e (mFrz ma) := fun W tk => (h W tk).imp fun σ H Q ⟨F, ρ, P, R, q⟩ => by
  refine ⟨F, ρ, P, R, (Hold.bind (R1 := RH C σ) q).imp ?_⟩
  rintro v H1 ⟨h1, ρ1, P1, s1, R1, r1, q1⟩
  obtain ⟨x, ρ2, P2, s2, R2, r2, q2⟩ := Hold.frz R1 r1 q1
  exact q2 P2 H1 v (Same.refl _) R2 r2
/-! ### displays -/
def mTup (ms : M (List Hd)) : M Hd := ms.bind fun hs => (frzAll hs).bind fun xs => (M.lift (if xs.length ≤ 16777216 then some () else none)).bind fun _ => M.pure (.d (.tup xs))
def mLst (ms : M (List Hd)) : M (List D) := ms.bind fun hs => (frzAll hs).bind fun xs => (M.lift (if xs.length ≤ 16777216 then some () else none)).bind fun _ => M.pure xs
theorem le_line {n : Nat} (h : (if n ≤ 16777216 then some () else none) = some ()) : n ≤ sizeLine := by
  rw [sizeLine_eq]
  by_cases q : n ≤ 16777216
  · exact q
  · rw [if_neg q] at h; cases h
theorem snd_tup {x1} (ha : SndA C X es ms) : SndH C X (.Tuple es x1 pos) (mTup ms) := fun W tk => (pe_tup (ha W tk)).imp fun σ H Q ⟨F, ρ, P, R, q⟩ => by
  refine ⟨F, ρ, P, R, (Hold.bind (R1 := RA C σ) q).imp ?_⟩
  rintro vs H1 ⟨h1, ρ1, P1, s1, R1, r1, q1⟩
  obtain ⟨xs, ρ2, P2, s2, R2, r2, q2⟩ := Hold.frzAll R1 r1 q1
  obtain ⟨u, hu, q3⟩ := Hold.lift q2
  have hl : vs.length ≤ sizeLine := by rw [← r2.length]; exact le_line hu
  refine ⟨hl, fun p hp => ?_⟩
  obtain ⟨R', s'⟩ := R2.alloc (.tup vs) hp
  refine q3 _ _ _ s' R' (show Rep C _ (.tup xs) _ from ?_)
  rw [Rep]
  exact ⟨p, vs, rfl, SqT.of upd_same, hl, r2.mono s'⟩
theorem sndF_lst (ha : SndA C X es ms) : SndF C X (.List es pos) (mLst ms) := fun W tk => (pe_lst (ha W tk)).imp fun σ H Q ⟨F, ρ, P, R, q⟩ => by
  refine ⟨F, ρ, P, R, (Hold.bind (R1 := RA C σ) q).imp ?_⟩
  rintro vs H1 ⟨h1, ρ1, P1, s1, R1, r1, q1⟩
  obtain ⟨xs, ρ2, P2, s2, R2, r2, q2⟩ := Hold.frzAll R1 r1 q1
  obtain ⟨u, hu, q3⟩ := Hold.lift q2
  have hl : vs.length ≤ sizeLine := by rw [← r2.length]; exact le_line hu
  refine ⟨hl, fun p hp => ?_⟩
  obtain ⟨R', f'⟩ := R2.fresh hp hl r2
  exact q3 P2 _ _ (Same.refl _) R' f'
end

/-! ### what a def is worth -/
inductive Spc where
  | io (xs : List D)
  | cns (c : Nat) (fs : List (Option D))
  deriving Inhabited
inductive RV where
  | d (x : D) | fr (xs : List D)
  deriving Inhabited
inductive FRes where
  | ok (r : RV) (s : Option Spc)
  | exc (c : Nat) (s : Option Spc)
  | stuck
  deriving Inhabited
abbrev Fn := Option Spc → List D → FRes

inductive Args (C : Kx) (P H : Hp) : Option Spc → List D → List V → Option Addr → Option Addr → Prop
  | plain {as : List D} {vs : List V} : Reps C P as vs → Args C P H none as vs none none
  | io {xs : List D} {as : List D} {vs us : List V} {a : Addr} : H a = some (.lst us) → us.length ≤ sizeLine → Reps C P xs us → P a = none → Reps C P as vs → Args C P H (some (.io xs)) as (.ref a :: vs) (some a) none
  | cns {c : Nat} {fs : List (Option D)} {as : List D} {vs : List V} {us : List (Option V)} {a dx : Addr} : dx ≠ a → SlX.Slt H a (C.cls c) dx us → (∀ (j : Nat) x, fs[j]? = some (some x) → ∃ v, us[j]? = some (some v) ∧ Rep C P x v) →
      P a = none → P dx = none → H dx ≠ none → Reps C P as vs → Args C P H (some (.cns c fs)) as (.ref a :: vs) (some a) (some dx)
def exA (ad dx : Option Addr) (b : Addr) : Prop := ad = some b ∨ dx = some b
structure Post (P H P' H' : Hp) (ad dx : Option Addr) : Prop where
  same : Same P P'
  sub : Same P' H'
  frame : ∀ b o, H b = some o → ¬ exA ad dx b → H' b = some o
  there : ∀ b, H' b = none → H b = none
  new : ∀ b o, P' b = some o → P b = some o ∨ H b = none
  nex : ∀ b, exA ad dx b → P' b = none
def SpcOk (C : Kx) (P' H' : Hp) (ad dx : Option Addr) : Option Spc → Prop
  | none => True
  | some (.io xs) => ∃ a us, ad = some a ∧ H' a = some (.lst us) ∧ us.length ≤ sizeLine ∧ Reps C P' xs us
  | some (.cns c fs) => ∃ a d us, ad = some a ∧ dx = some d ∧ d ≠ a ∧ SlX.Slt H' a (C.cls c) d us ∧ ∀ (j : Nat) x, fs[j]? = some (some x) → ∃ v, us[j]? = some (some v) ∧ Rep C P' x v
def RetOk (C : Kx) (P' H H' : Hp) : RV → V → Prop
  | .d x, v => Rep C P' x v
  | .fr xs, v => ∃ a us, v = .ref a ∧ H' a = some (.lst us) ∧ us.length ≤ sizeLine ∧ Reps C P' xs us ∧ P' a = none ∧ H a = none
def CallEnd (C : Kx) (P H : Hp) (ad dx : Option Addr) (Q : VK) (E : XK) : FRes → Prop
  | .ok r s => ∀ P' H' v, Post P H P' H' ad dx → SpcOk C P' H' ad dx s → RetOk C P' H H' r v → Q v H'
  | .exc c s => ∀ P' H', Post P H P' H' ad dx → SpcOk C P' H' ad dx s → E (.ref (C.cls c)) none H'
  | .stuck => False
/-- the promise of a def that is worth g -/
def SpOf (C : Kx) (g : Fn) : Sp := fun vs H Q E => ∃ s as P ad dx, Same P H ∧ Args C P H s as vs ad dx ∧ CallEnd C P H ad dx Q E (g s as)

section
variable {C : Kx} {F : Fc} {X : Cx} {e a b c : PySem.Expr} {es : List PySem.Expr} {pos : Pos} {ma mb : M Hd} {ms : M (List Hd)} {ρ : En} {σ : L2.St} {P H P' H' : Hp}
/-- behind a call that changes nothing of ours -/
theorem Rel.after (R : Rel C F ρ P σ H) (p : Post P H P' H' none none) : Rel C F ρ P' σ H' := by
  have keep : ∀ {b o}, H b = some o → H' b = some o := fun q => p.frame _ _ q fun z => by rcases z with z | z <;> cases z
  have np : ∀ {b o}, H b = some o → P b = none → P' b = none := fun {b o} h1 h2 => by
    cases e : P' b with
    | none => rfl
    | some u =>
      rcases p.new b u e with z | z
      · rw [h2] at z; cases z
      · rw [h1] at z; cases z
  refine ⟨R.len, p.sub, fun a ha => ⟨?_, (R.nex a ha).2⟩, fun a o q hx => keep (R.frame a o q hx), fun a q => R.there a (p.there a q), fun a o q => ?_, fun i x q => ?_, fun i xs q => ?_, fun i xs q => ?_, fun i c fs q => ?_, R.dist⟩
  · cases e : H a with
    | none => exact ((R.nex a ha).2 (R.there a e)).elim
    | some o => exact np e (R.nex a ha).1
  · rcases p.new a o q with z | z
    · exact R.old a o z
    · exact .inr (R.there a z)
  · obtain ⟨v, h1, h2⟩ := R.val i x q
    exact ⟨v, h1, h2.mono p.same⟩
  · obtain ⟨a, vs, h1, h2, h3, h4, h5, h6⟩ := R.own i xs q
    exact ⟨a, vs, h1, keep h2, h3, h4.mono p.same, np h2 h5, h6⟩
  · obtain ⟨h0, a, vs, h1, h2, h3, h4, h5⟩ := R.arg i xs q
    exact ⟨h0, a, vs, h1, h2, keep h3, h4, h5.mono p.same⟩
  · obtain ⟨h0, a, dx, vs, h1, h2, h3, h4, h5, h6⟩ := R.cns i c fs q
    refine ⟨h0, a, dx, vs, h1, h2, h3, h4, ?_, fun j x ej => ?_⟩
    · rcases h5 with ⟨q1, q2⟩ | ⟨q1, q2⟩
      · exact .inl ⟨keep q1, q2⟩
      · exact .inr ⟨keep q1, keep q2⟩
    · obtain ⟨v, q1, q2⟩ := h6 j x ej
      exact ⟨v, q1, q2.mono p.same⟩
def Sl.put : Sl → List D → Sl
  | .own _, ys => .own ys
  | _, ys => .arg ys
/-- behind a call to which the list of a slot was handed -/
theorem Rel.afterIo (R : Rel C F ρ P σ H) {j : Nat} {xs ys : List D} {s : Sl} {ad : Addr} {us : List V} (e : ρ[j]? = some s) (hs : s = .own xs ∨ s = .arg xs) (ha : σ[j]? = some (some (.ref ad))) (p : Post P H P' H' (some ad) none)
    (hu : H' ad = some (.lst us)) (hl : us.length ≤ sizeLine) (r : Reps C P' ys us) : Rel C F (ρ.set j (s.put ys)) P' σ H' := by
  have ha' : ∃ zs, H ad = some (.lst zs) ∧ P ad = none := by
    rcases hs with rfl | rfl
    · obtain ⟨a, vs, h1, h2, _, _, h5, _⟩ := R.own j xs e
      rw [ha] at h1; cases h1; exact ⟨vs, h2, h5⟩
    · obtain ⟨_, a, vs, h1, h2, h3, _⟩ := R.arg j xs e
      rw [ha] at h1; cases h1; exact ⟨vs, h3, (R.nex ad (.inl h2)).1⟩
  obtain ⟨zs, hz, hPz⟩ := ha'
  have ex : ∀ {b}, b ≠ ad → ¬ exA (some ad) none b := fun hb z => by rcases z with z | z <;> cases z; exact hb rfl
  have keep : ∀ {b o}, b ≠ ad → H b = some o → H' b = some o := fun hb q => p.frame _ _ q (ex hb)
  have np : ∀ {b o}, H b = some o → P b = none → P' b = none := fun {b o} h1 h2 => by
    cases e : P' b with
    | none => rfl
    | some u =>
      rcases p.new b u e with z | z
      · rw [h2] at z; cases z
      · rw [h1] at z; cases z
  -- the frame ahead of the store
  have hown : ∀ (k : Nat) ws, k ≠ j → ρ[k]? = some (.own ws) → ∃ a vs, σ[k]? = some (some (.ref a)) ∧ H' a = some (.lst vs) ∧ vs.length ≤ sizeLine ∧ Reps C P' ws vs ∧ P' a = none ∧ F.H0 a = none := fun k ws hk q => by
    obtain ⟨a, vs, h1, h2, h3, h4, h5, h6⟩ := R.own k ws q
    have : a ≠ ad := fun t => by
      subst t
      rcases hs with rfl | rfl
      · exact hk (R.dist k j a ws xs q e h1 ha)
      · obtain ⟨_, b, _, z1, z2, _⟩ := R.arg j xs e
        rw [ha] at z1; cases z1
        exact (R.nex a (.inl z2)).2 h6
    exact ⟨a, vs, h1, keep this h2, h3, h4.mono p.same, np h2 h5, h6⟩
  have hframe : ∀ a o, F.H0 a = some o → ¬ F.ex a → H' a = some o := fun a o q hx => by
    have q' := R.frame a o q hx
    refine keep (fun t => ?_) q'
    subst t
    rcases hs with rfl | rfl
    · obtain ⟨b, _, z1, _, _, _, _, z6⟩ := R.own j xs e
      rw [ha] at z1; cases z1
      rw [q] at z6; cases z6
    · obtain ⟨_, b, _, z1, z2, _⟩ := R.arg j xs e
      rw [ha] at z1; cases z1
      exact hx (.inl z2)
  refine ⟨by simpa using R.len, p.sub, fun a ha => ⟨?_, (R.nex a ha).2⟩, hframe, fun a q => R.there a (p.there a q), fun a o q => ?_, fun i x q => ?_, fun i ws q => ?_, fun i ws q => ?_, fun i c fs q => ?_, fun i k b ws zs q1 q2 q3 q4 => ?_⟩
  · cases e : H a with
    | none => exact ((R.nex a ha).2 (R.there a e)).elim
    | some o => exact np e (R.nex a ha).1
  · rcases p.new a o q with z | z
    · exact R.old a o z
    · exact .inr (R.there a z)
  · rcases get_set_cases q with ⟨rfl, z, _⟩ | ⟨hj, z⟩
    · rcases hs with rfl | rfl <;> cases z
    · obtain ⟨v, h1, h2⟩ := R.val i x z
      exact ⟨v, h1, h2.mono p.same⟩
  · rcases get_set_cases q with ⟨rfl, z, _⟩ | ⟨hj, z⟩
    · rcases hs with rfl | rfl
      · cases z
        obtain ⟨a, vs, h1, h2, h3, h4, h5, h6⟩ := R.own i xs e
        rw [ha] at h1; cases h1
        exact ⟨ad, us, ha, hu, hl, r, p.nex ad (.inl rfl), h6⟩
      · cases z
    · exact hown i ws hj z
  · rcases get_set_cases q with ⟨rfl, z, _⟩ | ⟨hj, z⟩
    · rcases hs with rfl | rfl
      · cases z
      · cases z
        obtain ⟨h0, a, vs, h1, h2, h3, h4, h5⟩ := R.arg i xs e
        rw [ha] at h1; cases h1
        exact ⟨h0, ad, us, ha, h2, hu, hl, r⟩
    · obtain ⟨h0, a, vs, h1, h2, h3, h4, h5⟩ := R.arg i ws z
      have : a ≠ ad := fun t => by
        subst t
        rcases hs with rfl | rfl
        · obtain ⟨b, _, z1, _, _, _, _, z6⟩ := R.own j xs e
          rw [ha] at z1; cases z1
          exact (R.nex a (.inl h2)).2 z6
        · exact hj (h0.trans (R.arg j xs e).1.symm)
      exact ⟨h0, a, vs, h1, h2, keep this h3, h4, h5.mono p.same⟩
  · rcases get_set_cases q with ⟨rfl, z, _⟩ | ⟨hj, z⟩
    · rcases hs with rfl | rfl <;> cases z
    · obtain ⟨h0, a, dx, vs, h1, h2, h3, h4, h5, h6⟩ := R.cns i c fs z
      have n1 : ∀ b, F.ex b → b ≠ ad := fun b hb t => by
        subst t
        rcases hs with rfl | rfl
        · obtain ⟨b', _, z1, _, _, _, _, z6⟩ := R.own j xs e
          rw [ha] at z1; cases z1
          exact (R.nex b hb).2 z6
        · exact hj (h0.trans (R.arg j xs e).1.symm)
      refine ⟨h0, a, dx, vs, h1, h2, h3, h4, ?_, fun l x el => ?_⟩
      · rcases h5 with ⟨q1, q2⟩ | ⟨q1, q2⟩
        · exact .inl ⟨keep (n1 a (.inl h2)) q1, q2⟩
        · exact .inr ⟨keep (n1 a (.inl h2)) q1, keep (n1 dx (.inr h3)) q2⟩
      · obtain ⟨v, q1, q2⟩ := h6 l x el
        exact ⟨v, q1, q2.mono p.same⟩
  · have o : ∀ (l : Nat) ws, (ρ.set j (s.put ys))[l]? = some (.own ws) → ∃ ws', ρ[l]? = some (.own ws') := fun l ws ql => by
      rcases get_set_cases ql with ⟨rfl, z, _⟩ | ⟨_, z⟩
      · rcases hs with rfl | rfl
        · exact ⟨xs, e⟩
        · cases z
      · exact ⟨ws, z⟩
    obtain ⟨w1, z1⟩ := o i ws q1
    obtain ⟨w2, z2⟩ := o k zs q2
    exact R.dist i k b w1 w2 z1 z2 q3 q4
end
end VL

set_option Elab.async false
set_option linter.all false
set_option maxRecDepth 100000
set_option maxHeartbeats 4000000
/-! VL4: calls of defs, of classes; attributes, properties. -/
namespace VL
open PySem PySem.Spec L2

section
variable {X : Cx} {CX : CXT} {k : Nat} {f : Addr} {sp : Sp} {E : L2.St → XK} {x : Str} {p pos : Pos} {e : PySem.Expr} {es : List PySem.Expr} {t : TA}
theorem run_fnRS {pins : List (Addr × Obj)} {σ : L2.St} {H : Hp} {s : Shared} {Q : VK} {us : List Value} {vs : List V} (F : FnR X.prog X.w X.K X.mg X.base CX k f sp) (hr : Room k X.A) (hx : PassesAt CX X σ (E σ))
    (I : Inv X pins σ H s) (r : Vals vs us) (h : sp vs H Q (E σ)) : wpAny (model X.prog X.w) X.A (call (.ref f) us) (EP X pins σ Q) X.xe s := by
  refine wpAny_call (codeAny_mono (F X.A X.stack s H us vs Q (E σ) hr I.env0 r h) fun r s' hq => ?_)
  cases r with
  | error e => exact hx pins H s e s' I hq
  | ok fl =>
    cases fl with
    | ret u => exact I.after hq
    | next => exact False.elim hq
    | brk => exact False.elim hq
    | cont => exact False.elim hq
theorem pe_callR (F : FnR X.prog X.w X.K X.mg X.base CX k f sp) (hr : Room k X.A) (hg : Gl X x) (hm : X.mg x = some (.ref f)) (hk : PySem.W.keepIn X.K (.ref f) = true) (hx : ∀ σ, PassesAt CX X σ (E σ))
    (ha : PA X (e :: es) t) (hdb : (x == ("__debug__" : Str)) = false) (he : starEach (e :: es) X.env = (false, eval e X.env) :: starEach es X.env) (hpl : (backTo pos (starEach es X.env)).any (·.1) = false) :
    PE X (.Call (.Name x p) (e :: es) [] pos) (tCallS sp E t) := by
  refine ⟨fun pins s σ H Q I h => ?_⟩
  refine wpAny_Call_Name_kw (ld_glob I hg hm ?_ hdb)
  refine PySem.W.callWith_K (h₀ := X.base) I.ok.mod.kin hk (thn (ha.run pos pins s σ H _ I h) fun us s1 ⟨vs, H1, I1, r, q⟩ => ⟨I1.kIn, ?_⟩) he hpl
  exact run_fnRS F hr (hx σ) I1 r q
theorem pe_callR0 (F : FnR X.prog X.w X.K X.mg X.base CX k f sp) (hr : Room k X.A) (hg : Gl X x) (hm : X.mg x = some (.ref f)) (hk : PySem.W.keepIn X.K (.ref f) = true) (hx : ∀ σ, PassesAt CX X σ (E σ))
    (hdb : (x == ("__debug__" : Str)) = false) : PE X (.Call (.Name x p) [] [] pos) (tCallS sp E tNil) := by
  refine ⟨fun pins s σ H Q I h => ?_⟩
  refine wpAny_Call_Name_kw (ld_glob I hg hm ?_ hdb)
  exact PySem.W.callWith_K0 I.kIn hk (run_fnRS (us := []) F hr (hx σ) I .nil h)
/-- C(..) -/
def tMakeS (C : Addr) (sp : Sp) (E : L2.St → XK) (t : TA) : TE := fun σ H Q => t σ H fun vs H1 => ∀ x dx, H1 x = none → H1 dx = none → dx ≠ x →
  sp (.ref x :: vs) (upd (upd H1 dx (.own x)) x (.ins C dx [])) (fun v H2 => v = .non ∧ Q (.ref x) H2) (E σ)
theorem run_makeS {C : Addr} {pins : List (Addr × Obj)} {σ : L2.St} {H : Hp} {s : Shared} {Q : VK} {us : List Value} {vs : List V} (M : Mk X.K C f) (F : FnR X.prog X.w X.K X.mg X.base CX k f sp) (hr : Room (k + 1) X.A)
    (hx : PassesAt CX X σ (E σ)) (I : Inv X pins σ H s) (r : Vals vs us)
    (h : ∀ x dx, H x = none → H dx = none → dx ≠ x → sp (.ref x :: vs) (upd (upd H dx (.own x)) x (.ins C dx [])) (fun v H2 => v = .non ∧ Q (.ref x) H2) (E σ)) :
    wpAny (model X.prog X.w) X.A (call (.ref C) us) (EP X pins σ Q) X.xe s := by
  have hq := h (s.heap.objs.size + 1) s.heap.objs.size (I.hok.fresh (Nat.le_succ _)) (I.hok.fresh (Nat.le_refl _)) (Nat.ne_of_lt (Nat.lt_succ_self _))
  have I2 := Inv.made (C := C) I
  have r2 : Vals (V.ref (s.heap.objs.size + 1) :: vs) (Value.ref (s.heap.objs.size + 1) :: us) := .cons rfl r
  refine wpAny_call (make_map (f := f) I.kIn M.makes M.init (beq_iff_eq.mp M.fn) (codeAny_mono (F _ X.stack _ _ (Value.ref (s.heap.objs.size + 1) :: us) _ _ (E σ) (hr.make C us [])
    (I2.env0.make C us []) r2 hq) fun r s' hq' => ?_))
  cases r with
  | error e => exact hx pins _ _ e s' I2 hq'
  | ok fl =>
    cases fl with
    | ret u =>
      obtain ⟨v, H', I3, rv, ev, q3⟩ := I2.after hq'
      subst ev
      exact ⟨rv, ⟨V.ref (s.heap.objs.size + 1), H', I3, rfl, q3⟩⟩
    | next => exact False.elim hq'
    | brk => exact False.elim hq'
    | cont => exact False.elim hq'
theorem pe_makeS {C : Addr} (M : Mk X.K C f) (F : FnR X.prog X.w X.K X.mg X.base CX k f sp) (hr : Room (k + 1) X.A) (hg : Gl X x) (hm : X.mg x = some (.ref C)) (hx : ∀ σ, PassesAt CX X σ (E σ))
    (ha : PA X (e :: es) t) (hdb : (x == ("__debug__" : Str)) = false) (he : starEach (e :: es) X.env = (false, eval e X.env) :: starEach es X.env) (hpl : (backTo pos (starEach es X.env)).any (·.1) = false) :
    PE X (.Call (.Name x p) (e :: es) [] pos) (tMakeS C sp E t) := by
  refine ⟨fun pins s σ H Q I h => ?_⟩
  refine wpAny_Call_Name_kw (ld_glob I hg hm ?_ hdb)
  refine PySem.W.callWith_K (h₀ := X.base) I.ok.mod.kin M.kp (thn (ha.run pos pins s σ H _ I h) fun us s1 ⟨vs, H1, I1, r, q⟩ => ⟨I1.kIn, ?_⟩) he hpl
  exact run_makeS M F hr (hx σ) I1 r q
end

section
variable {C : Kx} {F : Fc} {X : Cx} {e a b c : PySem.Expr} {es : List PySem.Expr} {pos : Pos} {ma mb : M Hd} {ms : M (List Hd)} {ρ : En} {σ : L2.St} {P H P' H' : Hp}
def D.atom : D → Bool
  | .non => true
  | .bl _ => true
  | .int _ => true
  | .str _ => true
  | _ => false
theorem Rep.atom {x : D} {v : V} (h : Rep C P x v) (ha : x.atom = true) : Rep C P' x v := by
  cases x <;> first | (rw [Rep] at h ⊢; exact h) | cases ha
def allD : List Hd → Option (List D)
  | [] => some []
  | .d x :: hs => (allD hs).map (x :: ·)
  | .sl _ :: _ => none
theorem allD_ok : ∀ {hs : List Hd} {vs : List V} {as : List D}, allD hs = some as → Hds C P σ hs vs → Reps C P as vs
  | [], vs, as, e, h => by cases e; cases h; exact Reps.nil
  | .d x :: hs, vs, as, e, ⟨v, r, ev, h1, h2⟩ => by
    have e : (allD hs).map (x :: ·) = some as := e
    cases q : allD hs with
    | none => rw [q] at e; cases e
    | some bs =>
      rw [q] at e
      cases e
      rw [ev]
      exact Reps.cons h1 (allD_ok q h2)
  | .sl _ :: _, _, _, e, _ => by cases e
theorem RepB.toH {x : D} {v : V} (s : Same P H) (h : RepB C P H x v) : Rep C H x v := by
  cases x with
  | lst xs => obtain ⟨a, vs, e, h1, h2, h3⟩ := h; rw [Rep]; exact ⟨a, vs, e, h1, h2, h3.mono s⟩
  | ro xs => obtain ⟨a, vs, e, h1, h2, h3⟩ := h; rw [Rep]; exact ⟨a, vs, e, h1, h2, h3.mono s⟩
  | _ => exact Rep.mono s (show Rep C P _ v from h)
theorem RepBs.toH (s : Same P H) : ∀ {xs : List D} {vs : List V}, RepBs C P H xs vs → Reps C H xs vs
  | [], _, h => by cases h; exact Reps.nil
  | x :: xs, _, ⟨v, r, e, h1, h2⟩ => by rw [e]; exact Reps.cons (h1.toH s) (RepBs.toH s h2)
mutual
/-- data without lists -/
def D.flat : D → Bool
  | .tup xs => D.flats xs
  | .obj _ fs => D.flats fs
  | .lst _ => false
  | .ro _ => false
  | .non => true
  | .bl _ => true
  | .int _ => true
  | .str _ => true
  | .cl _ => true
def D.flats : List D → Bool
  | [] => true
  | x :: xs => D.flat x && D.flats xs
end
def callV (g : Fn) (hs : List Hd) : M RV := match allD hs with
  | some as => fun ρ => match g none as with
    | .ok r _ => .ok r ρ
    | .exc c _ => .exc c ρ
    | .stuck => .stuck
  | none => (viewAll hs).bind fun as => fun ρ => match g none as with
    | .ok (.d x) _ => if x.flat = true then .ok (.d x) ρ else .stuck
    | .ok (.fr xs) _ => if D.flats xs = true then .ok (.fr xs) ρ else .stuck
    | .exc c _ => .exc c ρ
    | .stuck => .stuck
/-! ### lists that are lent to a callee -/
def Brw (ρ : En) (σ : L2.St) (b : Addr) : Prop := ∃ (j : Nat) (ys : List D), (ρ[j]? = some (.own ys) ∨ ρ[j]? = some (.arg ys)) ∧ σ[j]? = some (some (.ref b))
open Classical in
noncomputable def lent (ρ : En) (σ : L2.St) (P H : Hp) : Hp := fun b => if Brw ρ σ b then H b else P b
open Classical in
noncomputable def unlent (ρ : En) (σ : L2.St) (P' : Hp) : Hp := fun b => if Brw ρ σ b then none else P' b
theorem Rel.brw (R : Rel C F ρ P σ H) {b : Addr} (h : Brw ρ σ b) : P b = none ∧ ∃ vs, H b = some (.lst vs) := by
  obtain ⟨j, ys, h | h, e⟩ := h
  · obtain ⟨a, vs, h1, h2, _, _, h5, _⟩ := R.own j ys h
    rw [e] at h1; cases h1
    exact ⟨h5, vs, h2⟩
  · obtain ⟨_, a, vs, h1, h2, h3, _⟩ := R.arg j ys h
    rw [e] at h1; cases h1
    exact ⟨(R.nex b (.inl h2)).1, vs, h3⟩
theorem Rel.same_lent (R : Rel C F ρ P σ H) : Same P (lent ρ σ P H) := fun b o e => by
  unfold lent
  by_cases h : Brw ρ σ b
  · rw [(R.brw h).1] at e; cases e
  · rw [if_neg h]; exact e
theorem Rel.lent_sub (R : Rel C F ρ P σ H) : Same (lent ρ σ P H) H := fun b o e => by
  unfold lent at e
  by_cases h : Brw ρ σ b
  · rw [if_pos h] at e; exact e
  · rw [if_neg h] at e; exact R.sub b o e
theorem viewLent (R : Rel C F ρ P σ H) : ∀ {hs : List Hd} {vs : List V} {xs : List D} {ρ' : En}, Hds C P σ hs vs → viewAll hs ρ = .ok xs ρ' → Reps C (lent ρ σ P H) xs vs
  | [], vs, xs, ρ', h, e => by cases h; cases e; exact Reps.nil
  | h :: hs, vs, xs, ρ', ⟨v, r, ev, h1, h2⟩, e => by
    unfold viewAll M.bind at e
    cases e1 : view h ρ with
    | ok x ρ1 =>
      obtain ⟨e0, b1⟩ := view_ok R h1 e1
      rw [e1] at e
      dsimp only at e
      rw [e0] at e e1
      clear e0
      cases e2 : viewAll hs ρ with
      | ok ys ρ2 =>
        have ih := viewLent R h2 e2
        rw [e2] at e
        cases e
        rw [ev]
        refine Reps.cons ?_ ih
        cases h with
        | d y => cases e1; exact Rep.mono R.same_lent (show Rep C P _ v from h1)
        | sl i =>
          have h1 : σ[i]? = some (some v) := h1
          have e1 : viewSl ρ i = .ok x ρ := e1
          unfold viewSl at e1
          cases q : ρ[i]? with
          | none => rw [q] at e1; cases e1
          | some s =>
            rw [q] at e1
            cases s with
            | own zs =>
              cases e1
              obtain ⟨a, us, k1, k2, k3, k4, _⟩ := R.own i zs q
              rw [h1] at k1; cases k1
              rw [Rep]
              refine ⟨a, us, rfl, ?_, k3, k4.mono R.same_lent⟩
              unfold lent
              rw [if_pos ⟨i, zs, .inl q, h1⟩]; exact k2
            | arg zs =>
              cases e1
              obtain ⟨_, a, us, k1, _, k2, k3, k4⟩ := R.arg i zs q
              rw [h1] at k1; cases k1
              rw [Rep]
              refine ⟨a, us, rfl, ?_, k3, k4.mono R.same_lent⟩
              unfold lent
              rw [if_pos ⟨i, zs, .inr q, h1⟩]; exact k2
            | _ => cases e1
      | exc c ρ2 => rw [e2] at e; cases e
      | stuck => rw [e2] at e; cases e
    | exc c ρ1 => rw [e1] at e; cases e
    | stuck => rw [e1] at e; cases e
theorem Hold.viewLent {γ δ : Type} {R2 : γ → δ → En → Hp → Hp → Prop} {W : WX} {Q : δ → Hp → Prop} {hs : List Hd} {vs : List V} {k : List D → M γ} (R : Rel C F ρ P σ H) (r : Hds C P σ hs vs)
    (q : Hold C F W σ P R2 (M.bind (VL.viewAll hs) k ρ) Q) : ∃ xs, Reps C (lent ρ σ P H) xs vs ∧ Hold C F W σ P R2 (k xs ρ) Q := by
  unfold M.bind at q
  cases e1 : VL.viewAll hs ρ with
  | ok xs ρ1 =>
    have b1 := VL.viewLent R r e1
    obtain ⟨rfl, _⟩ := viewAll_ok R r e1
    rw [e1] at q
    exact ⟨xs, b1, q⟩
  | exc c ρ1 => exact (viewAll_noexc e1).elim
  | stuck => rw [e1] at q; exact q.elim
theorem Rel.unlend (R : Rel C F ρ P σ H) (p : Post (lent ρ σ P H) H P' H' none none) : Same P (unlent ρ σ P') ∧ Rel C F ρ (unlent ρ σ P') σ H' := by
  have keep : ∀ {b o}, H b = some o → H' b = some o := fun q => p.frame _ _ q fun z => by rcases z with z | z <;> cases z
  have un : ∀ {b o}, unlent ρ σ P' b = some o → ¬ Brw ρ σ b ∧ P' b = some o := fun {b o} e => by
    unfold unlent at e
    by_cases h : Brw ρ σ b
    · rw [if_pos h] at e; cases e
    · rw [if_neg h] at e; exact ⟨h, e⟩
  have from' : ∀ {b o}, unlent ρ σ P' b = some o → P b = some o ∨ H b = none := fun {b o} e => by
    obtain ⟨h, e⟩ := un e
    rcases p.new b o e with z | z
    · unfold lent at z; rw [if_neg h] at z; exact .inl z
    · exact .inr z
  have sP : Same P (unlent ρ σ P') := fun b o e => by
    have h : ¬ Brw ρ σ b := fun h => by rw [(R.brw h).1] at e; cases e
    unfold unlent
    rw [if_neg h]
    exact p.same b o (R.same_lent b o e)
  refine ⟨sP, R.len, fun b o e => p.sub b o (un e).2, fun a ha => ⟨?_, (R.nex a ha).2⟩, fun a o q hx => keep (R.frame a o q hx), fun a q => R.there a (p.there a q), fun a o q => ?_, fun i x q => ?_, fun i xs q => ?_, fun i xs q => ?_, fun i c fs q => ?_, R.dist⟩
  · cases e : unlent ρ σ P' a with
    | none => rfl
    | some o =>
      rcases from' e with z | z
      · rw [(R.nex a ha).1] at z; cases z
      · exact ((R.nex a ha).2 (R.there a z)).elim
  · rcases from' q with z | z
    · exact R.old a o z
    · exact .inr (R.there a z)
  · obtain ⟨v, h1, h2⟩ := R.val i x q
    exact ⟨v, h1, h2.mono sP⟩
  · obtain ⟨a, vs, h1, h2, h3, h4, h5, h6⟩ := R.own i xs q
    exact ⟨a, vs, h1, keep h2, h3, h4.mono sP, by unfold unlent; rw [if_pos ⟨i, xs, .inl q, h1⟩], h6⟩
  · obtain ⟨h0, a, vs, h1, h2, h3, h4, h5⟩ := R.arg i xs q
    exact ⟨h0, a, vs, h1, h2, keep h3, h4, h5.mono sP⟩
  · obtain ⟨h0, a, dx, vs, h1, h2, h3, h4, h5, h6⟩ := R.cns i c fs q
    refine ⟨h0, a, dx, vs, h1, h2, h3, h4, ?_, fun j x ej => ?_⟩
    · rcases h5 with ⟨q1, q2⟩ | ⟨q1, q2⟩
      · exact .inl ⟨keep q1, q2⟩
      · exact .inr ⟨keep q1, keep q2⟩
    · obtain ⟨v, q1, q2⟩ := h6 j x ej
      exact ⟨v, q1, q2.mono sP⟩
mutual
theorem flat_rep {U : Hp} (k : ∀ a o, P' a = some o → (∀ vs, o ≠ .lst vs) → U a = some o) : ∀ {x : D} {v : V}, x.flat = true → Rep C P' x v → Rep C U x v
  | .non, v, _, h => by rw [Rep] at h ⊢; exact h
  | .bl _, v, _, h => by rw [Rep] at h ⊢; exact h
  | .int _, v, _, h => by rw [Rep] at h ⊢; exact h
  | .str _, v, _, h => by rw [Rep] at h ⊢; exact h
  | .cl _, v, _, h => by rw [Rep] at h ⊢; exact h
  | .lst _, v, f, h => by rw [D.flat] at f; cases f
  | .ro _, v, f, h => by rw [D.flat] at f; cases f
  | .tup xs, v, f, h => by
    rw [D.flat] at f
    rw [Rep] at h ⊢
    obtain ⟨a, vs, e, h1, h2, h3⟩ := h
    refine ⟨a, vs, e, ?_, h2, flats_rep k f h3⟩
    rcases h1 with (h1 | ⟨o, h1⟩) | h1
    · exact .inl (.inl (k _ _ h1 fun vs z => by cases z))
    · exact .inl (.inr ⟨o, k _ _ h1 fun vs z => by cases z⟩)
    · exact .inr h1
  | .obj c fs, v, f, h => by
    rw [D.flat] at f
    rw [Rep] at h ⊢
    obtain ⟨a, dx, us, vs, e, h1, h2, h3, h4⟩ := h
    exact ⟨a, dx, us, vs, e, k _ _ h1 (fun vs z => by cases z), k _ _ h2 (fun vs z => by cases z), h3, flats_rep k f h4⟩
theorem flats_rep {U : Hp} (k : ∀ a o, P' a = some o → (∀ vs, o ≠ .lst vs) → U a = some o) : ∀ {xs : List D} {vs : List V}, D.flats xs = true → Reps C P' xs vs → Reps C U xs vs
  | [], vs, _, h => by rw [Reps] at h ⊢; exact h
  | x :: xs, vs, f, h => by
    rw [D.flats] at f
    rw [Reps] at h ⊢
    obtain ⟨v, r, e, h1, h2⟩ := h
    exact ⟨v, r, e, flat_rep k (Bool.and_eq_true_iff.mp f).1 h1, flats_rep k (Bool.and_eq_true_iff.mp f).2 h2⟩
end
theorem Rel.unlent_at (R : Rel C F ρ P σ H) (p : Post (lent ρ σ P H) H P' H' none none) : ∀ a o, P' a = some o → (∀ vs, o ≠ .lst vs) → unlent ρ σ P' a = some o := fun a o e hn => by
  unfold unlent
  by_cases h : Brw ρ σ a
  · obtain ⟨_, vs, hv⟩ := R.brw h
    have := p.same a (.lst vs) (by unfold lent; rw [if_pos h]; exact hv)
    rw [e] at this
    cases this
    exact (hn vs rfl).elim
  · rw [if_neg h]; exact e
def ioEnd (ρ : En) (j : Nat) (s : Sl) : FRes → Res RV
  | .ok r (some (.io ys)) => .ok r (ρ.set j (s.put ys))
  | .exc c (some (.io ys)) => .exc c (ρ.set j (s.put ys))
  | _ => .stuck
def Sl.lst? : Sl → Option (List D)
  | .own xs => some xs
  | .arg xs => some xs
  | _ => none
def ioCall (g : Fn) (as : List D) (ρ : En) (j : Nat) : Option Sl → Res RV
  | some s => match s.lst? with
    | some xs => ioEnd ρ j s (g (some (.io xs)) as)
    | none => .stuck
  | none => .stuck
def callIo (g : Fn) : List Hd → M RV
  | .sl j :: rest => (frzAll rest).bind fun as => fun ρ => ioCall g as ρ j ρ[j]?
  | _ => fun _ => .stuck
def mCall (g : Fn) (io : Bool) (ms : M (List Hd)) : M RV := ms.bind fun hs => if io = true then callIo g hs else callV g hs
abbrev RR (C : Kx) (F : Fc) (σ : L2.St) : RV → V → En → Hp → Hp → Prop := fun r v ρ' P' H' => match r with
  | .d x => Rep C P' x v
  | .fr xs => Fresh C F σ xs v ρ' P' H'
def rdR (C : Kx) (W : WX) (m : M RV) : TE := fun σ H Q => ∃ F ρ P, Rel C F ρ P σ H ∧ Hold C F W σ P (RR C F σ) (m ρ) Q
def SndR (C : Kx) (X : Cx) (e : PySem.Expr) (m : M RV) : Prop := ∀ W, Takes X W → PE X e (rdR C W m)
def mRV (m : M RV) : M Hd := m.bind fun r => match r with
  | .d x => M.pure (.d x)
  | .fr xs => M.pure (.d (.lst xs))
def mRVF (m : M RV) : M (List D) := m.bind fun r => match r with
  | .fr xs => M.pure xs
  | .d _ => fun _ => .stuck
theorem snd_rv {m : M RV} (h : SndR C X e m) : SndH C X e (mRV m) := fun W tk => (h W tk).imp fun σ H Q ⟨F, ρ, P, R, q⟩ => by
  refine ⟨F, ρ, P, R, (Hold.bind (R1 := RR C F σ) q).imp ?_⟩
  rintro v H1 ⟨r, ρ1, P1, s1, R1, f1, q1⟩
  cases r with
  | d x => exact q1 P1 H1 v (Same.refl _) R1 f1
  | fr xs =>
    obtain ⟨P2, s2, R2, r2⟩ := R1.frzFresh f1
    exact q1 P2 H1 v s2 R2 r2
theorem sndF_rv {m : M RV} (h : SndR C X e m) : SndF C X e (mRVF m) := fun W tk => (h W tk).imp fun σ H Q ⟨F, ρ, P, R, q⟩ => by
  refine ⟨F, ρ, P, R, (Hold.bind (R1 := RR C F σ) q).imp ?_⟩
  rintro v H1 ⟨r, ρ1, P1, s1, R1, f1, q1⟩
  cases r with
  | d x => exact q1.elim
  | fr xs => exact q1 P1 H1 v (Same.refl _) R1 f1
/-- what a call hands back, in the caller's eyes -/
theorem RetOk.RR {r : RV} {v : V} {ρ' : En} (R : Rel C F ρ P σ H) (h : RetOk C P' H H' r v) (he : ∀ (j : Nat) ys, ρ'[j]? = some (.own ys) → ∃ zs, ρ[j]? = some (.own zs)) : RR C F σ r v ρ' P' H' := by
  cases r with
  | d x => exact h
  | fr xs =>
    obtain ⟨a, us, rfl, h1, h2, h3, h4, h5⟩ := h
    refine ⟨a, us, rfl, h1, h2, h3, h4, R.there a h5, fun j ys e1 e2 => ?_⟩
    obtain ⟨zs, e3⟩ := he j ys e1
    obtain ⟨b, vs, k1, k2, _⟩ := R.own j zs e3
    rw [e2] at k1; cases k1
    rw [h5] at k2; cases k2
/-- the promise of the callee, from what must hold behind the call -/
theorem callV_ok {W : WX} {g : Fn} {hs : List Hd} {vs : List V} {Q : VK} (R : Rel C F ρ P σ H) (r : Hds C P σ hs vs) (q : Hold C F W σ P (RR C F σ) (callV g hs ρ) Q) : SpOf C g vs H Q (WE W σ) := by
  unfold callV at q
  cases e : allD hs with
  | some as =>
    rw [e] at q
    refine ⟨none, as, P, none, none, R.sub, .plain (allD_ok e r), ?_⟩
    dsimp only at q
    cases eg : g none as with
    | ok r0 s0 =>
      rw [eg] at q
      exact fun P' H' v p _ ro => q P' H' v p.same (R.after p) (ro.RR R fun j ys e => ⟨ys, e⟩)
    | exc c s0 => rw [eg] at q; exact fun P' H' p _ => q P' H' p.same (R.after p)
    | stuck => rw [eg] at q; exact q.elim
  | none =>
    rw [e] at q
    obtain ⟨as, b, q⟩ := Hold.viewLent R r q
    refine ⟨none, as, lent ρ σ P H, none, none, R.lent_sub, .plain b, ?_⟩
    cases eg : g none as with
    | ok r0 s0 =>
      rw [eg] at q
      cases r0 with
      | d x =>
        dsimp only at q
        by_cases ha : x.flat = true
        · rw [if_pos ha] at q
          intro P' H' v p _ ro
          obtain ⟨sU, RU⟩ := R.unlend p
          exact q _ H' v sU RU (flat_rep (R.unlent_at p) ha (show Rep C P' x v from ro))
        · rw [if_neg ha] at q; exact q.elim
      | fr xs =>
        dsimp only at q
        by_cases ha : D.flats xs = true
        · rw [if_pos ha] at q
          intro P' H' v p _ ro
          obtain ⟨sU, RU⟩ := R.unlend p
          obtain ⟨a, us, rfl, h1, h2, h3, h4, h5⟩ := ro
          refine q _ H' (.ref a) sU RU ⟨a, us, rfl, h1, h2, flats_rep (R.unlent_at p) ha h3, ?_, R.there a h5, fun j ys e1 e2 => ?_⟩
          · unfold unlent
            by_cases hb : Brw ρ σ a
            · rw [if_pos hb]
            · rw [if_neg hb]; exact h4
          · obtain ⟨b, vs, k1, k2, _⟩ := R.own j ys e1
            rw [e2] at k1; cases k1
            rw [h5] at k2; cases k2
        · rw [if_neg ha] at q; exact q.elim
    | exc c s0 =>
      rw [eg] at q
      intro P' H' p _
      obtain ⟨sU, RU⟩ := R.unlend p
      exact q _ H' sU RU
    | stuck => rw [eg] at q; exact q.elim
theorem Sl.lst_cases {s : Sl} {xs : List D} (h : s.lst? = some xs) : s = .own xs ∨ s = .arg xs := by
  cases s <;> first | cases h | skip
  · exact .inl rfl
  · exact .inr rfl
theorem callIo_ok {W : WX} {g : Fn} {hs : List Hd} {vs : List V} {Q : VK} (R : Rel C F ρ P σ H) (r : Hds C P σ hs vs) (q : Hold C F W σ P (RR C F σ) (callIo g hs ρ) Q) : SpOf C g vs H Q (WE W σ) := by
  cases hs with
  | nil => exact q.elim
  | cons h rest =>
    cases h with
    | d x => exact q.elim
    | sl j =>
      obtain ⟨v, rs, rfl, hj, hr⟩ := r
      have hj : σ[j]? = some (some v) := hj
      obtain ⟨as, ρ1, P1, s1, R1, ra, q⟩ := Hold.frzAll R hr (show Hold C F W σ P (RR C F σ) (M.bind (frzAll rest) (fun as => fun ρ => ioCall g as ρ j ρ[j]?) ρ) Q from q)
      have q : Hold C F W σ P1 (RR C F σ) (ioCall g as ρ1 j ρ1[j]?) Q := q
      cases es : ρ1[j]? with
      | none => rw [es] at q; exact q.elim
      | some s =>
        rw [es] at q
        have q : Hold C F W σ P1 (RR C F σ) (match s.lst? with | some xs => ioEnd ρ1 j s (g (some (.io xs)) as) | none => .stuck) Q := q
        cases el : s.lst? with
        | none => rw [el] at q; exact q.elim
        | some xs =>
          rw [el] at q
          have q : Hold C F W σ P1 (RR C F σ) (ioEnd ρ1 j s (g (some (.io xs)) as)) Q := q
          have hs := Sl.lst_cases el
          have hA : ∃ a us, v = .ref a ∧ H a = some (.lst us) ∧ us.length ≤ sizeLine ∧ Reps C P1 xs us ∧ P1 a = none := by
            rcases hs with rfl | rfl
            · obtain ⟨a, us, h1, h2, h3, h4, h5, _⟩ := R1.own j xs es
              rw [hj] at h1; cases h1
              exact ⟨a, us, rfl, h2, h3, h4, h5⟩
            · obtain ⟨_, a, us, h1, h2, h3, h4, h5⟩ := R1.arg j xs es
              rw [hj] at h1; cases h1
              exact ⟨a, us, rfl, h3, h4, h5, (R1.nex a (.inl h2)).1⟩
          obtain ⟨a, us, rfl, h2, h3, h4, h5⟩ := hA
          refine ⟨some (.io xs), as, P1, some a, none, R1.sub, .io h2 h3 h4 h5 ra, ?_⟩
          have own' : ∀ ys (l : Nat) ws, (ρ1.set j (s.put ys))[l]? = some (.own ws) → ∃ zs, ρ1[l]? = some (.own zs) := fun ys l ws ql => by
            rcases get_set_cases ql with ⟨rfl, z, _⟩ | ⟨_, z⟩
            · rcases hs with rfl | rfl
              · exact ⟨xs, es⟩
              · cases z
            · exact ⟨ws, z⟩
          cases eg : g (some (.io xs)) as with
          | ok r0 s0 =>
            rw [eg] at q
            cases s0 with
            | none => exact q.elim
            | some s0 =>
              cases s0 with
              | cns _ _ => exact q.elim
              | io ys =>
                intro P' H' v p so ro
                obtain ⟨a', us', e1, e2, e3, e4⟩ := so
                cases e1
                have R' := R1.afterIo es hs hj p e2 e3 e4
                exact q P' H' v p.same R' (ro.RR R1 (own' ys))
          | exc c s0 =>
            rw [eg] at q
            cases s0 with
            | none => exact q.elim
            | some s0 =>
              cases s0 with
              | cns _ _ => exact q.elim
              | io ys =>
                intro P' H' p so
                obtain ⟨a', us', e1, e2, e3, e4⟩ := so
                cases e1
                exact q P' H' p.same (R1.afterIo es hs hj p e2 e3 e4)
          | stuck => rw [eg] at q; exact q.elim
theorem call_reading {W : WX} {g : Fn} {io : Bool} {Q : VK} (h : rdR C W (mCall g io ms) σ H Q) : tCallS (SpOf C g) (WE W) (rdA C W ms) σ H Q := by
  obtain ⟨F, ρ, P, R, q⟩ := h
  refine ⟨F, ρ, P, R, (Hold.bind (R1 := RA C σ) q).imp ?_⟩
  rintro v H1 ⟨h1, ρ1, P1, s1, R1, r1, q1⟩
  cases io with
  | true => exact callIo_ok R1 r1 q1
  | false => exact callV_ok R1 r1 q1
theorem snd_call {k : Nat} {f : Addr} {g : Fn} {x : Str} {p : Pos} {io : Bool} (G : FnR X.prog X.w X.K X.mg X.base (L2.CX X.prog X.w) k f (SpOf C g)) (hr : Room k X.A) (hg : Gl X x) (hm : X.mg x = some (.ref f)) (hk : PySem.W.keepIn X.K (.ref f) = true)
    (ha : SndA C X (e :: es) ms) (hdb : (x == ("__debug__" : Str)) = false) (he : starEach (e :: es) X.env = (false, eval e X.env) :: starEach es X.env) (hpl : (backTo pos (starEach es X.env)).any (·.1) = false) :
    SndR C X (.Call (.Name x p) (e :: es) [] pos) (mCall g io ms) :=
  fun W tk => (pe_callR G hr hg hm hk (fun σ => passAt tk σ) (ha W tk) hdb he hpl).imp fun σ H Q h => call_reading h
theorem snd_call0 {k : Nat} {f : Addr} {g : Fn} {x : Str} {p : Pos} {io : Bool} (G : FnR X.prog X.w X.K X.mg X.base (L2.CX X.prog X.w) k f (SpOf C g)) (hr : Room k X.A) (hg : Gl X x) (hm : X.mg x = some (.ref f)) (hk : PySem.W.keepIn X.K (.ref f) = true)
    (hdb : (x == ("__debug__" : Str)) = false) : SndR C X (.Call (.Name x p) [] [] pos) (mCall g io mNil) :=
  fun W tk => (pe_callR0 G hr hg hm hk (fun σ => passAt tk σ) hdb).imp fun σ H Q ⟨F, ρ, P, R, q⟩ => by
    cases io with
    | true => exact q.elim
    | false => exact callV_ok (hs := []) (vs := []) R rfl q

/-! ### a new object -/
def allSome : List (Option D) → Option (List D)
  | [] => some []
  | some x :: r => (allSome r).map (x :: ·)
  | none :: _ => none
theorem allSome_ok {us : List (Option V)} : ∀ {fs : List (Option D)} {xs : List D} {n : Nat}, allSome fs = some xs → (∀ (j : Nat) x, fs[j]? = some (some x) → ∃ v, us[n + j]? = some (some v) ∧ Rep C P x v) →
    ∃ vs : List V, (∀ (j : Nat) u, vs[j]? = some u → us[n + j]? = some (some u)) ∧ Reps C P xs vs
  | [], xs, n, e, h => by cases e; exact ⟨[], fun j u q => by simp at q, Reps.nil⟩
  | some x :: r, xs, n, e, h => by
    have e : (allSome r).map (x :: ·) = some xs := e
    cases q : allSome r with
    | none => rw [q] at e; cases e
    | some ys =>
      rw [q] at e
      cases e
      obtain ⟨v, h1, h2⟩ := h 0 x (by simp)
      obtain ⟨vs, h3, h4⟩ := allSome_ok (n := n + 1) q fun j y ej => by
        obtain ⟨w, k1, k2⟩ := h (j + 1) y (by simpa using ej)
        exact ⟨w, by rw [show n + 1 + j = n + (j + 1) by omega]; exact k1, k2⟩
      refine ⟨v :: vs, fun j u ej => ?_, Reps.cons h2 h4⟩
      cases j with
      | zero => simp at ej; subst ej; exact h1
      | succ j => rw [show n + (j + 1) = n + 1 + j by omega]; exact h3 j u (by simpa using ej)
  | none :: r, xs, n, e, h => by cases e
theorem Rel.widen (R : Rel C F ρ P σ H) (sP : Same P P') (s2 : Same P' H) (hn : ∀ b o, P' b = some o → P b = some o ∨ (F.H0 b = none ∧ ∀ (j : Nat) ys, ρ[j]? = some (.own ys) → σ[j]? = some (some (.ref b)) → False)) : Rel C F ρ P' σ H := by
  refine ⟨R.len, s2, fun b hb => ⟨?_, (R.nex b hb).2⟩, R.frame, R.there, fun b u q => ?_, fun j y q => ?_, fun j ws q => ?_, fun j ws q => ?_, fun j c fs q => ?_, R.dist⟩
  · cases e : P' b with
    | none => rfl
    | some o =>
      rcases hn b o e with z | ⟨z, _⟩
      · rw [(R.nex b hb).1] at z; cases z
      · exact ((R.nex b hb).2 z).elim
  · rcases hn b u q with z | ⟨z, _⟩
    · exact R.old b u z
    · exact .inr z
  · obtain ⟨v, k1, k2⟩ := R.val j y q
    exact ⟨v, k1, k2.mono sP⟩
  · obtain ⟨b, us, k1, k2, k3, k4, k5, k6⟩ := R.own j ws q
    refine ⟨b, us, k1, k2, k3, k4.mono sP, ?_, k6⟩
    cases e : P' b with
    | none => rfl
    | some o =>
      rcases hn b o e with z | ⟨_, z⟩
      · rw [k5] at z; cases z
      · exact (z j ws q k1).elim
  · obtain ⟨k0, b, us, k1, k2, k3, k4, k5⟩ := R.arg j ws q
    exact ⟨k0, b, us, k1, k2, k3, k4, k5.mono sP⟩
  · obtain ⟨k0, b, dx, us, k1, k2, k3, k4, k5, k6⟩ := R.cns j c fs q
    exact ⟨k0, b, dx, us, k1, k2, k3, k4, k5, fun l x el => let ⟨v, w1, w2⟩ := k6 l x el; ⟨v, w1, w2.mono sP⟩⟩
def makeEnd2 (c : Nat) (ρ : En) (c' : Nat) (fs : List (Option D)) : Res Hd := match c' == c, allSome fs with
  | true, some (x :: xs) => .ok (.d (.obj c (x :: xs))) ρ
  | _, _ => .stuck
def makeEnd (c : Nat) (ρ : En) : FRes → Res Hd
  | .ok (.d .non) (some (.cns c' fs)) => makeEnd2 c ρ c' fs
  | .exc k _ => .exc k ρ
  | _ => .stuck
def mMake (c n : Nat) (g : Fn) (ms : M (List Hd)) : M Hd := ms.bind fun hs => (frzAll hs).bind fun as => fun ρ => makeEnd c ρ (g (some (.cns c (List.replicate n none))) as)
theorem make_post {x dx : Addr} {o1 o2 : HO} (hx : H x = none) (hd : H dx = none) (p : Post P (upd (upd H dx o1) x o2) P' H' (some x) (some dx)) : Post P H P' H' none none := by
  have ne : ∀ {b o}, H b = some o → b ≠ x ∧ b ≠ dx := fun q => ⟨ne_of_none q hx, ne_of_none q hd⟩
  refine ⟨p.same, p.sub, fun b o q _ => p.frame b o (by rw [upd_ne (ne q).1, upd_ne (ne q).2]; exact q) fun z => ?_, fun b q => ?_, fun b o q => ?_, fun b z => by rcases z with z | z <;> cases z⟩
  · rcases z with z | z
    · cases z; exact (ne q).1 rfl
    · cases z; exact (ne q).2 rfl
  · have h1 := p.there b q
    by_cases e1 : b = x
    · rw [e1]; exact hx
    · by_cases e2 : b = dx
      · rw [e2]; exact hd
      · rw [upd_ne e1, upd_ne e2] at h1; exact h1
  · rcases p.new b o q with z | z
    · exact .inl z
    · refine .inr ?_
      by_cases e1 : b = x
      · rw [e1]; exact hx
      · by_cases e2 : b = dx
        · rw [e2]; exact hd
        · rw [upd_ne e1, upd_ne e2] at z; exact z
theorem make_reading {W : WX} {g : Fn} {c n : Nat} {Q : VK} (h : rdH C W (mMake c n g ms) σ H Q) : tMakeS (C.cls c) (SpOf C g) (WE W) (rdA C W ms) σ H Q := by
  obtain ⟨F, ρ, P, R, q⟩ := h
  refine ⟨F, ρ, P, R, (Hold.bind (R1 := RA C σ) q).imp ?_⟩
  rintro v H1 ⟨h1, ρ1, P1, s1, R1, r1, q1⟩
  obtain ⟨as, ρ2, P2, s2, R2, ra, q2⟩ := Hold.frzAll R1 r1 q1
  intro x dx hx hd hne
  have px := R2.pnone hx
  have pd := R2.pnone hd
  have nx : ∀ {b o}, H1 b = some o → b ≠ x := fun q => ne_of_none q hx
  have nd : ∀ {b o}, H1 b = some o → b ≠ dx := fun q => ne_of_none q hd
  refine ⟨some (.cns c (List.replicate n none)), as, P2, some x, some dx, fun b o e => ?_, .cns hne (.inl ⟨upd_same, rfl⟩) (fun j y ej => ?_) px pd (by rw [upd_ne hne, upd_same]; exact fun z => by cases z) ra, ?_⟩
  · have z := R2.sub b o e
    rw [upd_ne (nx z), upd_ne (nd z)]; exact z
  · rw [List.getElem?_replicate] at ej
    split at ej <;> cases ej
  · cases eg : g (some (.cns c (List.replicate n none))) as with
    | stuck => rw [eg] at q2; exact q2.elim
    | exc k s0 =>
      rw [eg] at q2
      exact fun P' H' p _ => q2 P' H' p.same (R2.after (make_post hx hd p))
    | ok r0 s0 =>
      rw [eg] at q2
      intro P' H' w p so ro
      cases r0 with
      | fr _ => exact q2.elim
      | d z0 =>
      cases s0 with
      | none => cases z0 <;> exact q2.elim
      | some s0 =>
        cases s0 with
        | io _ => cases z0 <;> exact q2.elim
        | cns c' fs =>
          have hz : z0 = .non ∧ Hold C F W σ P2 (RH C σ) (makeEnd2 c ρ2 c' fs) Q := by
            cases z0 <;> first | exact ⟨rfl, q2⟩ | exact q2.elim
          obtain ⟨ez, q3⟩ := hz
          subst ez
          clear q2
          unfold makeEnd2 at q3
          have q2 := q3
          clear q3
          cases ec : (c' == c) with
          | false => rw [ec] at q2; exact q2.elim
          | true =>
            rw [ec] at q2
            have ec' : c' = c := beq_iff_eq.mp ec
            subst ec'
            cases ef : allSome fs with
            | none => rw [ef] at q2; exact q2.elim
            | some l =>
              rw [ef] at q2
              cases l with
              | nil => exact q2.elim
              | cons y ys =>
                obtain ⟨a, d, us, ea, ed, hda, hsl, hf⟩ := so
                cases ea; cases ed
                have Rp := R2.after (make_post hx hd p)
                have n1 : P' x = none := p.nex x (.inl rfl)
                have n2 : P' dx = none := p.nex dx (.inr rfl)
                -- the object as it stands
                obtain ⟨vs, hv1, hv2⟩ := allSome_ok (us := us) (n := 0) ef (fun j y ej => by simpa using hf j y ej)
                have hne' : us ≠ [] := fun z => by
                  obtain ⟨v0, r0, e0, _⟩ := (show ∃ v r, vs = v :: r ∧ _ ∧ _ by rw [Reps] at hv2; exact hv2)
                  have := hv1 0 v0 (by rw [e0]; rfl)
                  rw [z] at this
                  simp at this
                rcases hsl with ⟨_, z⟩ | ⟨k1, k2⟩
                · exact (hne' z).elim
                · refine ⟨(show Rep C P' .non w from ro).non, ?_⟩
                  have sP : Same P' (upd (upd P' dx (.xd [])) x (SlX.SlO x (C.cls c') dx us)) := fun b o e => by
                    rw [upd_ne (ne_of_none e n1), upd_ne (ne_of_none e n2)]; exact e
                  refine q2 _ H' (.ref x) (p.same.trans sP) (Rp.widen sP (fun b o e => ?_) fun b o e => ?_) (show Rep C _ (.obj c' (y :: ys)) _ from ?_)
                  · by_cases e1 : b = x
                    · subst e1; rw [upd_same] at e; cases e; exact k1
                    · rw [upd_ne e1] at e
                      by_cases e2 : b = dx
                      · subst e2; rw [upd_same] at e; cases e; exact k2
                      · rw [upd_ne e2] at e; exact p.sub b o e
                  · have new : ∀ {b : Addr}, H1 b = none → (F.H0 b = none ∧ ∀ (j : Nat) zs, ρ2[j]? = some (.own zs) → σ[j]? = some (some (.ref b)) → False) := fun {b} hb =>
                      ⟨R2.there b hb, fun j zs e1 e2 => by
                        obtain ⟨b', _, z1, z2, _⟩ := R2.own j zs e1
                        rw [e2] at z1; cases z1
                        rw [hb] at z2; cases z2⟩
                    by_cases e1 : b = x
                    · subst e1; exact .inr (new hx)
                    · rw [upd_ne e1] at e
                      by_cases e2 : b = dx
                      · subst e2; exact .inr (new hd)
                      · rw [upd_ne e2] at e; exact .inl e
                  · rw [Rep]
                    refine ⟨x, dx, us, vs, rfl, upd_same, by rw [upd_ne hne, upd_same], fun j u ej => by simpa using hv1 j u ej, hv2.mono sP⟩
theorem snd_make {k : Nat} {f : Addr} {g : Fn} {x : Str} {p : Pos} {c n : Nat} (M : Mk X.K (C.cls c) f) (G : FnR X.prog X.w X.K X.mg X.base (L2.CX X.prog X.w) k f (SpOf C g)) (hr : Room (k + 1) X.A) (hg : Gl X x) (hm : X.mg x = some (.ref (C.cls c)))
    (ha : SndA C X (e :: es) ms) (hdb : (x == ("__debug__" : Str)) = false) (he : starEach (e :: es) X.env = (false, eval e X.env) :: starEach es X.env) (hpl : (backTo pos (starEach es X.env)).any (·.1) = false) :
    SndH C X (.Call (.Name x p) (e :: es) [] pos) (mMake c n g ms) :=
  fun W tk => (pe_makeS M G hr hg hm (fun σ => passAt tk σ) (ha W tk) hdb he hpl).imp fun σ H Q h => make_reading h

/-! ### attributes -/
/-- o.f, f in the place j of the objects of class c -/
def mFld (c j : Nat) (m : M Hd) : M Hd := m.bind fun h => M.lift (match h with
  | .d (.obj c' fs) => if c' = c then (fs[j]?).map .d else none
  | _ => none)
theorem slt_of {c : Nat} {fs : List D} {v : V} (s : Same P H) (h : Rep C P (.obj c fs) v) : ∃ a dx us vs, v = .ref a ∧ SlX.Slt H a (C.cls c) dx us ∧ (∀ (j : Nat) u, vs[j]? = some u → us[j]? = some (some u)) ∧ Reps C P fs vs := by
  rw [Rep] at h
  obtain ⟨a, dx, us, vs, e, h1, h2, h3, h4⟩ := h
  exact ⟨a, dx, us, vs, e, .inr ⟨s _ _ h1, s _ _ h2⟩, h3, h4⟩
theorem snd_fld {c j : Nat} {f : Str} {q : Addr} (sc : SlX.SCls X.K (C.cls c)) (sl : SlX.Slot1 X.K (C.cls c) f q j) (ha : SndH C X a ma) (hb : attributeBase a f X.env (eval a X.env) = eval a X.env) : SndH C X (.Attribute a f pos) (mFld c j ma) :=
  fun W tk => (SlX.pe_sl (ha W tk) hb).imp fun σ H Q ⟨F, ρ, P, R, qq⟩ => by
    refine ⟨F, ρ, P, R, (Hold.bind (R1 := RH C σ) qq).imp ?_⟩
    rintro v H1 ⟨h1, ρ1, P1, s1, R1, r1, q1⟩
    obtain ⟨y, ey, q2⟩ := Hold.liftE q1
    cases h1 with
    | sl i => cases ey
    | d x =>
      cases x with
      | obj c' fs =>
        dsimp only at ey
        by_cases hc : c' = c
        · subst hc
          rw [if_pos rfl] at ey
          cases ef : fs[j]? with
          | none => rw [ef] at ey; cases ey
          | some z =>
            rw [ef] at ey
            cases ey
            obtain ⟨a', dx, us, vs, e1, h2, h3, h4⟩ := slt_of R1.sub (show Rep C P1 (.obj c' fs) v from r1)
            obtain ⟨u, h5, h6⟩ := Reps.get' h4 ef
            exact ⟨a', _, dx, q, us, j, u, e1, h2, sc, sl, h3 j u h5, q2 P1 H1 u (Same.refl _) R1 h6⟩
        · rw [if_neg hc] at ey; cases ey
      | _ => cases ey
/-- self.f of the object that is made -/
def mSelf (i c j : Nat) : M Hd := fun ρ => match ρ[i]? with
  | some (.cns c' fs) => if c' = c then (match fs[j]? with
    | some (some x) => .ok (.d x) ρ
    | _ => .stuck) else .stuck
  | _ => .stuck
theorem snd_self {i c j : Nat} {f : Str} {q : Addr} (sc : SlX.SCls X.K (C.cls c)) (sl : SlX.Slot1 X.K (C.cls c) f q j) (ha : PE X a (tVar i)) (hb : attributeBase a f X.env (eval a X.env) = eval a X.env) : SndH C X (.Attribute a f pos) (mSelf i c j) :=
  fun W tk => (SlX.pe_sl ha hb).imp fun σ H Q ⟨F, ρ, P, R, qq⟩ => by
    unfold mSelf at qq
    cases e : ρ[i]? with
    | none => rw [e] at qq; exact qq.elim
    | some s =>
      rw [e] at qq
      cases s with
      | cns c' fs =>
        dsimp only at qq
        by_cases hc : c' = c
        · subst hc
          rw [if_pos rfl] at qq
          cases ef : fs[j]? with
          | none => rw [ef] at qq; exact qq.elim
          | some o =>
            rw [ef] at qq
            cases o with
            | none => exact qq.elim
            | some x =>
              obtain ⟨_, a', dx, vs, h1, h2, h3, h4, h5, h6⟩ := R.cns i c' fs e
              obtain ⟨v, h7, h8⟩ := h6 j x ef
              exact ⟨_, h1, a', _, dx, q, vs, j, v, rfl, h5, sc, sl, h7, qq P H v (Same.refl _) R h8⟩
        · rw [if_neg hc] at qq; exact qq.elim
      | _ => exact qq.elim
/-- a property: its getter is called; it raises nothing -/
def mProp (c : Nat) (g : Fn) (m : M Hd) : M Hd := m.bind fun h => M.lift (match h with
  | .d (.obj c' fs) => if c' = c then (match g none [.obj c' fs] with
    | .ok (.d x) _ => some (.d x)
    | _ => none) else none
  | _ => none)
theorem snd_prop {c n : Nat} {f : Str} {p' gf : Addr} {g : Fn} (sc : SlX.SCls X.K (C.cls c)) (at_ : PySem.W.findIn X.K (.ref (C.cls c)) f = some (some (.ref p'))) (get : PySem.W.specialIn X.K (.ref p') "__get__" = some (some (.builtin "property.__get__")))
    (tk : PySem.W.takesIn X.K (.ref p') = some true) (rc : ∃ rest, PySem.W.recIn X.K p' "property" = some (.ref gf :: rest)) (G : FnR X.prog X.w X.K X.mg X.base (L2.CX X.prog X.w) n gf (SpOf C g)) (hr : Room (n + 1) X.A)
    (ha : SndH C X a ma) (hb : attributeBase a f X.env (eval a X.env) = eval a X.env) : SndH C X (.Attribute a f pos) (mProp c g ma) :=
  fun W tk' => (SlX.pe_propSl (E := fun _ _ _ => False) (ha W tk') sc at_ get tk rc G hr (fun H s e s' z => by obtain ⟨_, _, _, _, _, _, _, _, _, _, _, _, z⟩ := z; exact z) hb).imp fun σ H Q ⟨F, ρ, P, R, qq⟩ => by
    refine ⟨F, ρ, P, R, (Hold.bind (R1 := RH C σ) qq).imp ?_⟩
    rintro v H1 ⟨h1, ρ1, P1, s1, R1, r1, q1⟩
    obtain ⟨y, ey, q2⟩ := Hold.liftE q1
    cases h1 with
    | sl i => cases ey
    | d x =>
      cases x with
      | obj c' fs =>
        dsimp only at ey
        by_cases hc : c' = c
        · subst hc
          rw [if_pos rfl] at ey
          have r1' : Rep C P1 (.obj c' fs) v := r1
          obtain ⟨a', dx, us, vs, e1, h2, h3, h4⟩ := slt_of R1.sub r1'
          subst e1
          refine ⟨a', dx, us, rfl, h2, none, [.obj c' fs], P1, none, none, R1.sub, .plain (Reps.cons r1' Reps.nil), ?_⟩
          cases eg : g none [.obj c' fs] with
          | stuck => rw [eg] at ey; cases ey
          | exc k s0 => rw [eg] at ey; cases ey
          | ok r0 s0 =>
            rw [eg] at ey
            cases r0 with
            | fr xs => cases ey
            | d z =>
              cases ey
              exact fun P' H' w p _ ro => q2 P' H' w p.same (R1.after p) ro
        · rw [if_neg hc] at ey; cases ey
      | _ => cases ey
end
end VL

set_option Elab.async false
set_option linter.all false
set_option maxRecDepth 100000
set_option maxHeartbeats 4000000
/-! VL5: targets, what is walked, comprehensions. -/
namespace VL
open PySem PySem.Spec L2

section
variable {C : Kx} {F : Fc} {X : Cx} {e a b c : PySem.Expr} {es : List PySem.Expr} {pos : Pos} {ma mb : M Hd} {ms : M (List Hd)} {ρ : En} {σ : L2.St} {P H P' H' : Hp}

/-! ### targets -/
/-- slots that differ at vs alone -/
def Off (vs : List Nat) (σ σ' : L2.St) : Prop := σ'.length = σ.length ∧ ∀ (j : Nat), j ∉ vs → σ'[j]? = σ[j]?
def setSl (i : Nat) (s : Sl) : M Unit := fun ρ => match ρ[i]? with
  | some t => if t.free = true then .ok () (ρ.set i s) else .stuck
  | none => .stuck
theorem setSl_ok {i : Nat} {s : Sl} {ρ' : En} (h : setSl i s ρ = .ok () ρ') : ρ' = ρ.set i s ∧ ∃ t, ρ[i]? = some t ∧ t.free = true := by
  unfold setSl at h
  cases e : ρ[i]? with
  | none => rw [e] at h; cases h
  | some t =>
    rw [e] at h
    dsimp only at h
    by_cases ht : t.free = true
    · rw [if_pos ht] at h; cases h; exact ⟨rfl, t, rfl, ht⟩
    · rw [if_neg ht] at h; cases h
theorem setSl_noexc {i k : Nat} {s : Sl} {ρ' : En} (h : setSl i s ρ = .exc k ρ') : False := by
  unfold setSl at h
  cases e : ρ[i]? with
  | none => rw [e] at h; cases h
  | some t =>
    rw [e] at h
    dsimp only at h
    by_cases ht : t.free = true
    · rw [if_pos ht] at h; cases h
    · rw [if_neg ht] at h; cases h
def HoldG (C : Kx) (F : Fc) (vs : List Nat) (σ : L2.St) (P : Hp) (H : Hp) : Res Unit → (L2.St → Hp → Prop) → Prop
  | .ok _ ρ', Q => ∀ σ', Off vs σ σ' → Rel C F ρ' P σ' H → Q σ' H
  | _, _ => False
def rdG (C : Kx) (vs : List Nat) (bnd : D → M Unit) : TG := fun v σ H Q => ∃ F ρ P d, Rel C F ρ P σ H ∧ Rep C P d v ∧ HoldG C F vs σ P H (bnd d ρ) Q
def SndG (C : Kx) (X : Cx) (tg : PySem.Expr) (vs : List Nat) (bnd : D → M Unit) : Prop := PG X tg (rdG C vs bnd)
theorem _root_.L2.PG.imp {X : Cx} {e : PySem.Expr} {t t' : TG} (h : PG X e t) (f : ∀ v σ H Q, t' v σ H Q → t v σ H Q) : PG X e t' := ⟨fun pins s σ H v u Q I r q => h.run pins s σ H v u Q I r (f _ _ _ _ q)⟩
theorem Off.set {vs : List Nat} {i : Nat} {o : Option V} (h : i ∈ vs) : Off vs σ (σ.set i o) := ⟨List.length_set .., fun j hj => List.getElem?_set_ne (fun z => hj (by rw [← z]; exact h))⟩
theorem Off.trans {vs : List Nat} {σ1 σ2 σ3 : L2.St} (a : Off vs σ1 σ2) (b : Off vs σ2 σ3) : Off vs σ1 σ3 := ⟨b.1.trans a.1, fun j hj => (b.2 j hj).trans (a.2 j hj)⟩
theorem sndG_name {i : Nat} (h : PG X e (gName i)) : SndG C X e [i] (fun d => setSl i (.d d)) := h.imp fun v σ H Q ⟨F, ρ, P, d, R, r, q⟩ => by
  dsimp only at q
  cases eq : setSl i (.d d) ρ with
  | ok u ρ' =>
    rw [eq] at q
    obtain ⟨rfl, t, h1, h2⟩ := setSl_ok eq
    exact q _ (Off.set (by simp)) (R.setD h1 h2 r)
  | exc k ρ' => rw [eq] at q; exact q.elim
  | stuck => rw [eq] at q; exact q.elim
def bindNames : List Nat → List D → M Unit
  | [] => fun xs ρ => match xs with
    | [] => .ok () ρ
    | _ :: _ => .stuck
  | i :: is => fun xs => match xs with
    | [] => fun _ => .stuck
    | d :: ds => (setSl i (.d d)).bind fun _ => bindNames is ds
def bndTup (is : List Nat) : D → M Unit
  | .tup xs => bindNames is xs
  | _ => fun _ => .stuck
theorem HoldG.bind {vs : List Nat} {m : M Unit} {k : Unit → M Unit} {Q : L2.St → Hp → Prop} (h : HoldG C F vs σ P H (M.bind m k ρ) Q) : ∃ ρ', m ρ = .ok () ρ' ∧ HoldG C F vs σ P H (k () ρ') Q := by
  unfold M.bind at h
  cases e : m ρ with
  | ok u ρ' => rw [e] at h; exact ⟨ρ', rfl, h⟩
  | exc k ρ' => rw [e] at h; exact h.elim
  | stuck => rw [e] at h; exact h.elim
def gNames : List Nat → TGs
  | [] => gNil
  | i :: is => gCons (gName i) (gNames is)
theorem gNames_ok {vs0 : List Nat} {Q : L2.St → Hp → Prop} : ∀ {is : List Nat} {xs : List D} {us : List V} {ρ : En} {σ σ0 : L2.St}, (∀ i ∈ is, i ∈ vs0) → Off vs0 σ0 σ → Rel C F ρ P σ H → Reps C P xs us → HoldG C F vs0 σ0 P H (bindNames is xs ρ) Q → gNames is us σ H Q
  | [], [], us, ρ, σ, σ0, hi, ho, R, r, q => by
    rw [Reps] at r
    subst r
    exact ⟨rfl, q σ ho R⟩
  | [], _ :: _, us, ρ, σ, σ0, hi, ho, R, r, q => q.elim
  | _ :: _, [], us, ρ, σ, σ0, hi, ho, R, r, q => q.elim
  | i :: is, d :: ds, us, ρ, σ, σ0, hi, ho, R, r, q => by
    rw [Reps] at r
    obtain ⟨v, us', rfl, r1, r2⟩ := r
    obtain ⟨ρ', e, q⟩ := HoldG.bind (show HoldG C F vs0 σ0 P H (M.bind (setSl i (.d d)) (fun _ => bindNames is ds) ρ) Q from q)
    obtain ⟨rfl, t, h1, h2⟩ := setSl_ok e
    exact ⟨v, us', rfl, gNames_ok (fun j hj => hi j (List.mem_cons_of_mem _ hj)) (ho.trans (Off.set (hi i (List.mem_cons_self ..)))) (R.setD h1 h2 r1) r2 q⟩
theorem sndG_tup {is : List Nat} (h : PG X e (gTup C.K is.length (gNames is))) : SndG C X e is (bndTup is) := h.imp fun v σ H Q ⟨F, ρ, P, d, R, r, q⟩ => by
  cases d with
  | tup xs =>
    rw [Rep] at r
    obtain ⟨a, us, rfl, h1, h2, h3⟩ := r
    have hl : us.length = is.length := by
      have this : ∀ (is0 is : List Nat) (xs : List D) (us : List V) (ρ : En), us.length = xs.length → HoldG C F is0 σ P H (bindNames is xs ρ) Q → us.length = is.length := by
          intro is0 is
          induction is with
          | nil =>
            intro xs us ρ e q
            cases xs with
            | nil => exact e
            | cons x xs => exact q.elim
          | cons i is ih =>
            intro xs us ρ e q
            cases xs with
            | nil => exact q.elim
            | cons x xs =>
              obtain ⟨ρ', _, q⟩ := HoldG.bind (show HoldG C F is0 σ P H (M.bind (setSl i (.d x)) (fun _ => bindNames is xs) ρ) Q from q)
              cases us with
              | nil => cases e
              | cons u us => simpa using ih xs us ρ' (by simpa using e) q
      exact this is is xs us ρ h3.length.symm q
    exact ⟨a, us, rfl, Same.seqT R.sub h1, hl, gNames_ok (fun i hi => hi) ⟨rfl, fun _ _ => rfl⟩ R h3 q⟩
  | _ => exact q.elim

/-! ### what is walked -/
def IterOk (C : Kx) (P : Hp) (xs : List D) (J : It) : Prop := ∀ (i : Nat) (H : Hp), Same P H → (xs.length ≤ i → J.stop i H) ∧ ∀ d, xs[i]? = some d → J.go i H ∧
  ∀ x H', J.yld i H x H' → ∀ P1, Same P P1 → Same P1 H → ∃ P', Grow P1 H P' H' ∧ Rep C P' d x
abbrev RI (C : Kx) : List D → It → En → Hp → Hp → Prop := fun xs J _ P' _ => IterOk C P' xs J ∧ xs.length ≤ sizeLine
def rdI (C : Kx) (W : WX) (m : M (List D)) : TI := fun σ H R => ∃ F ρ P, Rel C F ρ P σ H ∧ Hold C F W σ P (RI C) (m ρ) R
def SndI (C : Kx) (X : Cx) (tg it : PySem.Expr) (m : M (List D)) : Prop := ∀ W, Takes X W → PI X tg it (rdI C W m)
theorem _root_.L2.PI.imp {X : Cx} {tg e : PySem.Expr} {t t' : TI} (h : PI X tg e t) (f : ∀ σ H Q, t' σ H Q → t σ H Q) : PI X tg e t' := ⟨fun pins s σ H Q I q => h.run pins s σ H Q I (f _ _ _ q)⟩
theorem iterOk_list {a : Addr} {xs : List D} {us : List V} (h : SqL C.K P a us) (r : Reps C P xs us) : IterOk C P xs (Itl C.K a) := fun i H s =>
  ⟨fun hi => ⟨us, s.seq h, by rw [← r.length]; exact hi⟩, fun d ed => by
    obtain ⟨v, h1, h2⟩ := Reps.get' r ed
    refine ⟨⟨us, v, s.seq h, h1⟩, fun x H' ⟨e1, y⟩ P1 s1 s2 => ⟨P1, .inl ⟨rfl, e1⟩, ?_⟩⟩
    have := y us (s.seq h)
    rw [h1] at this
    obtain rfl : v = x := Option.some.inj this
    exact h2.mono s1⟩
theorem iterOk_tup {a : Addr} {xs : List D} {us : List V} (h : SqT C.K P a us) (r : Reps C P xs us) : IterOk C P xs (Itt C.K a) := fun i H s =>
  ⟨fun hi => ⟨us, Same.seqT s h, by rw [← r.length]; exact hi⟩, fun d ed => by
    obtain ⟨v, h1, h2⟩ := Reps.get' r ed
    refine ⟨⟨us, v, Same.seqT s h, h1⟩, fun x H' ⟨e1, y⟩ P1 s1 s2 => ⟨P1, .inl ⟨rfl, e1⟩, ?_⟩⟩
    have := y us (Same.seqT s h)
    rw [h1] at this
    obtain rfl : v = x := Option.some.inj this
    exact h2.mono s1⟩
/-- a list or a tuple -/
def iSeq (K : PySem.W.Frag) (tl : TE) : TI := fun σ H R => tl σ H fun x H1 => (∃ a, x = .ref a ∧ (∃ xs, SqL K H1 a xs) ∧ R (Itl K a) H1) ∨ ∃ a, x = .ref a ∧ (∃ xs, SqT K H1 a xs) ∧ R (Itt K a) H1
theorem pi_seq {tg l : PySem.Expr} {tl : TE} (hl : PE X l tl) : PI X tg l (iSeq X.K tl) := by
  refine ⟨fun pins s σ H R I h => ?_⟩
  refine thn (hl.run pins s σ H _ I h) fun v s1 ⟨x, H1, I1, r1, q1⟩ => ?_
  rcases q1 with ⟨a, rfl, hx, q⟩ | ⟨a, rfl, hx, q⟩
  · cases r1
    obtain ⟨xs, hx⟩ := hx
    obtain ⟨its, rv, p, hz⟩ := I1.list hx
    refine wpAny_pyIter_list p.isList ?_
    refine ⟨s1.heap.objs.size, [s1.heap.objs.size], _, _, H1, rfl, I1.kept (t' := s1.toks) fun b o e => Heap.get?_push_of_some _ e, turn_list a _, ⟨_, Heap.get?_push_size _ rfl, rfl, rfl⟩, fun b hb => ?_, q⟩
    have e : b = s1.heap.objs.size := by simpa using hb
    subst e
    exact I1.fpOk (Nat.le_refl _) (I1.hok.fresh (Nat.le_refl _))
  · cases r1
    obtain ⟨xs, hx⟩ := hx
    obtain ⟨its, rv, p, hz⟩ := I1.tuple hx
    refine wpAny_pyIter_tuple (show s1.heap.IsTuple a its.toArray from p) ?_
    refine ⟨s1.heap.objs.size, [s1.heap.objs.size], _, _, H1, rfl, I1.kept (t' := s1.toks) fun b o e => Heap.get?_push_of_some _ e, turn_tuple a _, ⟨_, Heap.get?_push_size _ rfl, rfl, rfl⟩, fun b hb => ?_, q⟩
    have e : b = s1.heap.objs.size := by simpa using hb
    subst e
    exact I1.fpOk (Nat.le_refl _) (I1.hok.fresh (Nat.le_refl _))
def items : D → Option (List D)
  | .lst xs => some xs
  | .tup xs => some xs
  | .ro xs => some xs
  | _ => none
def mSrc (m : M Hd) : M (List D) := m.bind fun h => (frz h).bind fun x => M.lift (items x)
theorem sndI_seq {tg : PySem.Expr} (hK : X.K = C.K) (ha : SndH C X a ma) : SndI C X tg a (mSrc ma) := fun W tk => (pi_seq (ha W tk)).imp fun σ H Q ⟨F, ρ, P, R, q⟩ => by
  refine ⟨F, ρ, P, R, (Hold.bind (R1 := RH C σ) q).imp ?_⟩
  rintro v H1 ⟨h1, ρ1, P1, s1, R1, r1, q1⟩
  obtain ⟨x, ρ2, P2, s2, R2, r2, q2⟩ := Hold.frz R1 r1 q1
  obtain ⟨xs, ex, q3⟩ := Hold.liftE q2
  rw [hK]
  cases x with
  | lst ys =>
    cases ex
    rw [Rep] at r2
    obtain ⟨a', us, rfl, k1, k2, k3⟩ := r2
    exact .inl ⟨a', rfl, ⟨us, R2.sub.seq (SqL.of k1)⟩, q3 P2 H1 _ (Same.refl _) R2 ⟨iterOk_list (SqL.of k1) k3, by rw [k3.length]; exact k2⟩⟩
  | ro ys =>
    cases ex
    rw [Rep] at r2
    obtain ⟨a', us, rfl, k1, k2, k3⟩ := r2
    exact .inl ⟨a', rfl, ⟨us, R2.sub.seq k1⟩, q3 P2 H1 _ (Same.refl _) R2 ⟨iterOk_list k1 k3, by rw [k3.length]; exact k2⟩⟩
  | tup ys =>
    cases ex
    rw [Rep] at r2
    obtain ⟨a', us, rfl, k1, k2, k3⟩ := r2
    exact .inr ⟨a', rfl, ⟨us, Same.seqT R2.sub k1⟩, q3 P2 H1 _ (Same.refl _) R2 ⟨iterOk_tup k1 k3, by rw [k3.length]; exact k2⟩⟩
  | _ => cases ex
def rangeD (lo : Int) (n : Nat) : List D := (List.range n).map fun (i : Nat) => .int (lo + i)
theorem rangeD_length (lo : Int) (n : Nat) : (rangeD lo n).length = n := by unfold rangeD; simp
theorem rangeD_get {lo : Int} {n i : Nat} {d : D} (h : (rangeD lo n)[i]? = some d) : i < n ∧ d = .int (lo + i) := by
  unfold rangeD at h
  rw [List.getElem?_map] at h
  by_cases hi : i < n
  · rw [List.getElem?_range hi] at h
    exact ⟨hi, (Option.some.inj h).symm⟩
  · rw [List.getElem?_eq_none (by simpa using hi)] at h
    cases h
theorem iterOk_range {lo : Int} {n : Nat} : IterOk C P (rangeD lo n) (Itr lo n) := fun i H s =>
  ⟨fun hi => by unfold rangeD at hi; exact (show n ≤ i by simpa using hi), fun d ed => by
    obtain ⟨h1, rfl⟩ := rangeD_get ed
    exact ⟨h1, fun x H' ⟨e1, e2⟩ P1 s1 s2 => ⟨P1, .inl ⟨rfl, e1⟩, by rw [e2]; exact Rep.ofInt⟩⟩⟩
def in62 (i : Int) : Bool := decide (-4611686018427387904 ≤ i) && decide (i < 4611686018427387904)
theorem in62_ok {i : Int} (h : in62 i = true) : -(2 ^ 62) ≤ i ∧ i < 2 ^ 62 := by
  unfold in62 at h
  obtain ⟨h1, h2⟩ := Bool.and_eq_true_iff.mp h
  exact ⟨by have := of_decide_eq_true h1; omega, by have := of_decide_eq_true h2; omega⟩
def rng1 : D → Option (List D)
  | .int j => if (in62 j && decide (j ≤ 16777216)) = true then some (rangeD 0 j.toNat) else none
  | _ => none
def rng2 : D → D → Option (List D)
  | .int i, .int j => if (in62 i && in62 j && decide (j - i ≤ 16777216)) = true then some (rangeD i (j - i).toNat) else none
  | _, _ => none
def mRng1 (m : M Hd) : M (List D) := m.bind fun h => (view h).bind fun x => M.lift (rng1 x)
def mRng2 (ma mb : M Hd) : M (List D) := ma.bind fun h1 => mb.bind fun h2 => (view h1).bind fun x => (view h2).bind fun y => M.lift (rng2 x y)
theorem sndI_rng1 {tg : PySem.Expr} {p : Pos} (hg : Gl X "range") (hm : X.mg "range" = none) (ha : SndH C X a ma) (hs : starEach [a] X.env = [(false, eval a X.env)]) : SndI C X tg (.Call (.Name "range" p) [a] [] pos) (mRng1 ma) :=
  fun W tk => (pi_range1 hg hm (pa_cons (ha W tk) pa_nil hs) hs).imp fun σ H Q ⟨F, ρ, P, R, q⟩ => by
    refine ⟨F, ρ, P, R, (Hold.bind (R1 := RH C σ) q).imp ?_⟩
    rintro v H1 ⟨h1, ρ1, P1, s1, R1, r1, q1⟩
    obtain ⟨x, b, q2⟩ := Hold.view R1 r1 q1
    obtain ⟨xs, ex, q3⟩ := Hold.liftE q2
    cases x with
    | int j =>
      have ex : (if (in62 j && decide (j ≤ 16777216)) = true then some (rangeD 0 j.toNat) else none) = some xs := ex
      by_cases hj : (in62 j && decide (j ≤ 16777216)) = true
      · rw [if_pos hj] at ex
        cases ex
        obtain ⟨k1, k2⟩ := Bool.and_eq_true_iff.mp hj
        have k2 := of_decide_eq_true k2
        obtain ⟨g1, g2⟩ := in62_ok k1
        have b : Rep C P1 (.int j) v := b
        exact ⟨j, by rw [b.int], g1, g2, q3 P1 H1 _ (Same.refl _) R1 ⟨iterOk_range, by rw [rangeD_length, sizeLine_eq]; omega⟩⟩
      · rw [if_neg hj] at ex; cases ex
    | _ => cases ex
theorem sndI_rng2 {tg : PySem.Expr} {p : Pos} (hg : Gl X "range") (hm : X.mg "range" = none) (ha : SndH C X a ma) (hb : SndH C X b mb) (hs : starEach [a, b] X.env = [(false, eval a X.env), (false, eval b X.env)]) (hs2 : starEach [b] X.env = [(false, eval b X.env)])
    (hs0 : starEach (a :: [b]) X.env = (false, eval a X.env) :: starEach [b] X.env) : SndI C X tg (.Call (.Name "range" p) [a, b] [] pos) (mRng2 ma mb) :=
  fun W tk => (pi_range2 hg hm (pa_cons (ha W tk) (pa_cons (hb W tk) pa_nil hs2) hs0) hs hs2).imp fun σ H Q ⟨F, ρ, P, R, q⟩ => by
    refine ⟨F, ρ, P, R, (Hold.bind (R1 := RH C σ) q).imp ?_⟩
    rintro v H1 ⟨h1, ρ1, P1, s1, R1, r1, q1⟩
    refine ⟨F, ρ1, P1, R1, (Hold.bind (R1 := RH C σ) q1).imp ?_⟩
    rintro u H2 ⟨h2, ρ2, P2, s2, R2, r2, q2⟩
    obtain ⟨x, bx, q2⟩ := Hold.view R2 (r1.mono s2) q2
    obtain ⟨y, b_y, q2⟩ := Hold.view R2 r2 q2
    obtain ⟨xs, ex, q3⟩ := Hold.liftE q2
    cases x with
    | int i =>
      cases y with
      | int j =>
        have ex : (if (in62 i && in62 j && decide (j - i ≤ 16777216)) = true then some (rangeD i (j - i).toNat) else none) = some xs := ex
        by_cases hj : (in62 i && in62 j && decide (j - i ≤ 16777216)) = true
        · rw [if_pos hj] at ex
          cases ex
          obtain ⟨k0, k3⟩ := Bool.and_eq_true_iff.mp hj
          have k3 := of_decide_eq_true k3
          obtain ⟨k1, k2⟩ := Bool.and_eq_true_iff.mp k0
          obtain ⟨g1, g2⟩ := in62_ok k1
          obtain ⟨g3, g4⟩ := in62_ok k2
          have bx : Rep C P2 (.int i) v := bx
          have b_y : Rep C P2 (.int j) u := b_y
          exact ⟨i, j, by rw [bx.int, b_y.int], ⟨g1, g2, g3, g4⟩, q3 P2 H2 _ (Same.refl _) R2 ⟨iterOk_range, by rw [rangeD_length, sizeLine_eq]; omega⟩⟩
        · rw [if_neg hj] at ex; cases ex
      | _ => cases ex
    | _ => cases ex

/-! ### the frame of a comprehension -/
/-- the list that is made stands in the frame's heap -/
def Fc.with (F : Fc) (P : Hp) (a : Addr) (o : HO) : Fc := ⟨upd F.H0 a o, P, F.ad, F.dx⟩
/-- into the block: the block's own slots are forgotten -/
def forget : List Nat → En → En
  | [], ρ => ρ
  | i :: is, ρ => (forget is ρ).set i .un
theorem forget_length : ∀ (is : List Nat) (ρ : En), (forget is ρ).length = ρ.length
  | [], ρ => rfl
  | i :: is, ρ => by unfold forget; rw [List.length_set, forget_length is ρ]
theorem forget_get : ∀ {is : List Nat} {ρ : En} {j : Nat} {s : Sl}, (forget is ρ)[j]? = some s → s ≠ .un → ρ[j]? = some s ∧ j ∉ is
  | [], ρ, j, s, h, _ => ⟨h, by simp⟩
  | i :: is, ρ, j, s, h, hs => by
    unfold forget at h
    rcases get_set_cases h with ⟨_, e, _⟩ | ⟨hj, h⟩
    · exact (hs e).elim
    · obtain ⟨h1, h2⟩ := forget_get h hs
      exact ⟨h1, by simp only [List.mem_cons, not_or]; exact ⟨hj, h2⟩⟩
theorem forget_off : ∀ {is : List Nat} {ρ : En} {j : Nat}, j ∉ is → (forget is ρ)[j]? = ρ[j]?
  | [], ρ, j, _ => rfl
  | i :: is, ρ, j, h => by
    simp only [List.mem_cons, not_or] at h
    unfold forget
    rw [List.getElem?_set_ne (Ne.symm h.1)]
    exact forget_off h.2
theorem wipe_off : ∀ {is : List Nat} {σ : L2.St} {j : Nat}, j ∉ is → (wipe σ is)[j]? = σ[j]?
  | [], σ, j, _ => rfl
  | i :: is, σ, j, h => by
    simp only [List.mem_cons, not_or] at h
    unfold wipe
    rw [List.getElem?_set_ne (Ne.symm h.1)]
    exact wipe_off h.2
theorem wipe_eq {is : List Nat} {σ σ' : L2.St} (h : Off is σ σ') : wipe σ' is = wipe σ is := by
  apply List.ext_getElem?
  intro j
  by_cases hj : j ∈ is
  · have key : ∀ {is : List Nat} {σ : L2.St}, j ∈ is → j < σ.length → (wipe σ is)[j]? = some none := by
      intro is
      induction is with
      | nil => intro σ h; cases h
      | cons i is ih =>
        intro σ h hl
        unfold wipe
        by_cases e : i = j
        · subst e; rw [List.getElem?_set_self (by rw [wipe_length]; exact hl)]
        · rw [List.getElem?_set_ne e]
          exact ih (by simpa [Ne.symm e] using h) hl
    by_cases hl : j < σ.length
    · rw [key hj hl, key hj (by rw [h.1]; exact hl)]
    · rw [List.getElem?_eq_none (by rw [wipe_length, h.1]; omega), List.getElem?_eq_none (by rw [wipe_length]; omega)]
  · rw [wipe_off hj, wipe_off hj, h.2 j hj]
/-- the slots are restored -/
def restore (ρ0 : En) : List Nat → En → En
  | [], ρ => ρ
  | i :: is, ρ => match ρ0[i]? with
    | some s => (restore ρ0 is ρ).set i s
    | none => restore ρ0 is ρ
def plainSl : Sl → Bool
  | .un => true
  | .d _ => true
  | _ => false
def plainAt (ρ : En) (is : List Nat) : Bool := is.all fun i => match ρ[i]? with
  | some s => plainSl s
  | none => false
theorem wipe_wipe (σ : L2.St) (is : List Nat) : wipe (wipe σ is) is = wipe σ is :=
  wipe_eq ⟨wipe_length σ is, fun j hj => wipe_off hj⟩
theorem Rel.enter (R : Rel C F ρ P σ H) (is : List Nat) : Rel C F (forget is ρ) P (wipe σ is) H := by
  refine ⟨by rw [forget_length, wipe_length]; exact R.len, R.sub, R.nex, R.frame, R.there, R.old, fun i x q => ?_, fun i x q => ?_, fun i x q => ?_, fun i c fs q => ?_, fun i j a xs ys q1 q2 q3 q4 => ?_⟩
  · obtain ⟨h1, h2⟩ := forget_get q (by intro z; cases z)
    rw [wipe_off h2]; exact R.val i x h1
  · obtain ⟨h1, h2⟩ := forget_get q (by intro z; cases z)
    rw [wipe_off h2]; exact R.own i x h1
  · obtain ⟨h1, h2⟩ := forget_get q (by intro z; cases z)
    rw [wipe_off h2]; exact R.arg i x h1
  · obtain ⟨h1, h2⟩ := forget_get q (by intro z; cases z)
    rw [wipe_off h2]; exact R.cns i c fs h1
  · obtain ⟨h1, h2⟩ := forget_get q1 (by intro z; cases z)
    obtain ⟨h3, h4⟩ := forget_get q2 (by intro z; cases z)
    rw [wipe_off h2] at q3; rw [wipe_off h4] at q4
    exact R.dist i j a xs ys h1 h3 q3 q4
theorem restore_get {ρ0 : En} : ∀ {is : List Nat} {ρ : En} {j : Nat} {s : Sl}, ρ.length = ρ0.length → (restore ρ0 is ρ)[j]? = some s → (j ∈ is ∧ ρ0[j]? = some s) ∨ (j ∉ is ∧ ρ[j]? = some s)
  | [], ρ, j, s, hl, h => .inr ⟨by simp, h⟩
  | i :: is, ρ, j, s, hl, h => by
    unfold restore at h
    cases e : ρ0[i]? with
    | none =>
      rw [e] at h
      rcases restore_get hl h with ⟨h1, h2⟩ | ⟨h1, h2⟩
      · exact .inl ⟨List.mem_cons_of_mem _ h1, h2⟩
      · refine .inr ⟨?_, h2⟩
        simp only [List.mem_cons, not_or]
        refine ⟨fun z => ?_, h1⟩
        subst z
        have := get_lt h2
        rw [List.getElem?_eq_none_iff] at e
        omega
    | some t =>
      rw [e] at h
      rcases get_set_cases h with ⟨rfl, rfl, _⟩ | ⟨hj, h⟩
      · exact .inl ⟨List.mem_cons_self .., e⟩
      · rcases restore_get hl h with ⟨h1, h2⟩ | ⟨h1, h2⟩
        · exact .inl ⟨List.mem_cons_of_mem _ h1, h2⟩
        · exact .inr ⟨by simp only [List.mem_cons, not_or]; exact ⟨hj, h1⟩, h2⟩
theorem restore_length {ρ0 : En} : ∀ (is : List Nat) (ρ : En), (restore ρ0 is ρ).length = ρ.length
  | [], ρ => rfl
  | i :: is, ρ => by
    unfold restore
    cases ρ0[i]? with
    | none => exact restore_length is ρ
    | some t => rw [List.length_set, restore_length is ρ]
/-- out of the block -/
theorem Rel.leave {ρ0 ρ : En} {P0 : Hp} {is : List Nat} {H0 : Hp} (R0 : Rel C F ρ0 P0 σ H0) (hp : plainAt ρ0 is = true) (s : Same P0 P) (R : Rel C F (forget is ρ) P (wipe σ is) H) : Rel C F (restore ρ0 is ρ) P σ H := by
  have hl : ρ.length = ρ0.length := by have := R.len; rw [forget_length, wipe_length] at this; rw [this, R0.len]
  have pl : ∀ {i : Nat} {t : Sl}, i ∈ is → ρ0[i]? = some t → plainSl t = true := fun {i t} hi e => by
    have := List.all_eq_true.mp hp i hi
    rw [e] at this; exact this
  have off : ∀ {j : Nat} {t : Sl}, (restore ρ0 is ρ)[j]? = some t → plainSl t = false → (forget is ρ)[j]? = some t ∧ j ∉ is := fun {j t} q ht => by
    rcases restore_get hl q with ⟨h1, h2⟩ | ⟨h1, h2⟩
    · rw [pl h1 h2] at ht; cases ht
    · exact ⟨by rw [forget_off h1]; exact h2, h1⟩
  refine ⟨by rw [restore_length, hl]; exact R0.len, R.sub, R.nex, R.frame, R.there, R.old, fun i x q => ?_, fun i x q => ?_, fun i x q => ?_, fun i c fs q => ?_, fun i j a xs ys q1 q2 q3 q4 => ?_⟩
  · rcases restore_get hl q with ⟨h1, h2⟩ | ⟨h1, h2⟩
    · obtain ⟨v, k1, k2⟩ := R0.val i x h2
      exact ⟨v, k1, k2.mono s⟩
    · have := R.val i x (by rw [forget_off h1]; exact h2)
      rw [wipe_off h1] at this; exact this
  · obtain ⟨h1, h2⟩ := off q rfl
    have := R.own i x h1
    rw [wipe_off h2] at this; exact this
  · obtain ⟨h1, h2⟩ := off q rfl
    have := R.arg i x h1
    rw [wipe_off h2] at this; exact this
  · obtain ⟨h1, h2⟩ := off q rfl
    have := R.cns i c fs h1
    rw [wipe_off h2] at this; exact this
  · obtain ⟨h1, h2⟩ := off q1 rfl
    obtain ⟨h3, h4⟩ := off q2 rfl
    exact R.dist i j a xs ys h1 h3 (by rw [wipe_off h2]; exact q3) (by rw [wipe_off h4]; exact q4)
/-- the list that is made: laid -/
theorem Rel.makes {D : Addr} {o : HO} (R : Rel C F ρ P σ H) (hD : H D = none) : Rel C (F.with P D o) ρ P σ (upd H D o) := by
  have L := R.lay o hD
  have nD : ¬ F.ex D := fun z => R.exH z hD
  refine ⟨L.len, L.sub, fun a ha => ⟨(R.nex a ha).1, ?_⟩, fun a u q hx => ?_, fun a q => ?_, fun a u q => .inl q, L.val, fun i xs q => ?_, fun i xs q => L.arg i xs q, fun i c fs q => L.cns i c fs q, L.dist⟩
  · show upd F.H0 D o a ≠ none
    by_cases e : a = D
    · subst e; rw [upd_same]; exact fun z => by cases z
    · rw [upd_ne e]; exact (R.nex a ha).2
  · have q : upd F.H0 D o a = some u := q
    by_cases e : a = D
    · subst e; rw [upd_same] at q ⊢; exact q
    · rw [upd_ne e] at q ⊢; exact R.frame a u q hx
  · show upd F.H0 D o a = none
    by_cases e : a = D
    · subst e; rw [upd_same] at q; cases q
    · rw [upd_ne e] at q ⊢; exact R.there a q
  · obtain ⟨a, vs, h1, h2, h3, h4, h5, h6⟩ := L.own i xs q
    obtain ⟨b, _, k1, k2, _⟩ := R.own i xs q
    rw [h1] at k1; cases k1
    have e : a ≠ D := ne_of_none k2 hD
    exact ⟨a, vs, h1, h2, h3, h4, h5, by show upd F.H0 D o a = none; rw [upd_ne e]; exact h6⟩
/-- .. grown -/
theorem Rel.grows {P0 : Hp} {D : Addr} {o u : HO} (R : Rel C (F.with P0 D o) ρ P σ H) (hx : ¬ F.ex D) (hP : P0 D = none) : H D = some o ∧ P D = none ∧ Rel C (F.with P0 D u) ρ P σ (upd H D u) := by
  have hD : H D = some o := R.frame D o (by show upd F.H0 D o D = some o; exact upd_same) hx
  have pD : P D = none := by
    cases e : P D with
    | none => rfl
    | some z =>
      rcases R.old D z e with q | q
      · rw [show P0 D = some z from q] at hP; cases hP
      · have q : upd F.H0 D o D = none := q
        rw [upd_same] at q; cases q
  have h0 : ∀ {a}, a ≠ D → (F.with P0 D u).H0 a = (F.with P0 D o).H0 a := fun {a} e => by show upd F.H0 D u a = upd F.H0 D o a; rw [upd_ne e, upd_ne e]
  have h1 : (F.with P0 D u).H0 D = some u := upd_same
  refine ⟨hD, pD, ⟨R.len, fun b z q => ?_, fun a ha => ⟨(R.nex a ha).1, ?_⟩, fun a z q hz => ?_, fun a q => ?_, fun a z q => ?_, R.val, fun i xs q => ?_, fun i xs q => ?_, fun i c fs q => ?_, R.dist⟩⟩
  · have e : b ≠ D := fun t => by subst t; rw [pD] at q; cases q
    rw [upd_ne e]; exact R.sub b z q
  · by_cases e : a = D
    · rw [e, h1]; exact fun z => by cases z
    · rw [h0 e]; exact (R.nex a ha).2
  · by_cases e : a = D
    · subst e; rw [h1] at q; rw [upd_same]; exact q
    · rw [h0 e] at q; rw [upd_ne e]; exact R.frame a z q hz
  · by_cases e : a = D
    · subst e; rw [upd_same] at q; cases q
    · rw [upd_ne e] at q; rw [h0 e]; exact R.there a q
  · rcases R.old a z q with t | t
    · exact .inl t
    · by_cases e : a = D
      · subst e; rw [pD] at q; cases q
      · exact .inr (by rw [h0 e]; exact t)
  · obtain ⟨a, vs, k1, k2, k3, k4, k5, k6⟩ := R.own i xs q
    have e : a ≠ D := fun t => by
      subst t
      have k6 : upd F.H0 a o a = none := k6
      rw [upd_same] at k6; cases k6
    exact ⟨a, vs, k1, by rw [upd_ne e]; exact k2, k3, k4, k5, by rw [h0 e]; exact k6⟩
  · obtain ⟨k0, a, vs, k1, k2, k3, k4, k5⟩ := R.arg i xs q
    have e : a ≠ D := fun t => hx (.inl (t ▸ k2))
    exact ⟨k0, a, vs, k1, k2, by rw [upd_ne e]; exact k3, k4, k5⟩
  · obtain ⟨k0, a, dx, vs, k1, k2, k3, k4, k5, k6⟩ := R.cns i c fs q
    have e1 : a ≠ D := fun t => hx (.inl (t ▸ k2))
    have e2 : dx ≠ D := fun t => hx (.inr (t ▸ k3))
    refine ⟨k0, a, dx, vs, k1, k2, k3, k4, ?_, k6⟩
    rcases k5 with ⟨q1, q2⟩ | ⟨q1, q2⟩
    · exact .inl ⟨by rw [upd_ne e1]; exact q1, q2⟩
    · exact .inr ⟨by rw [upd_ne e1]; exact q1, by rw [upd_ne e2]; exact q2⟩
/-- .. done -/
theorem Rel.made {P0 : Hp} {Da : Addr} {vs : List V} {xs : List D} {ρ0 : En} {σ0 : L2.St} {H0 : Hp} (R : Rel C (F.with P0 Da (.lst vs)) ρ P σ H) (R0 : Rel C F ρ0 P0 σ0 H0) (hD : H0 Da = none) (hl : vs.length ≤ sizeLine) (r : Reps C P xs vs) :
    Rel C F ρ P σ H ∧ Fresh C F σ xs (.ref Da) ρ P H := by
  have hx : ¬ F.ex Da := fun z => R0.exH z hD
  have f0 := R0.there Da hD
  obtain ⟨h1, h2, _⟩ := R.grows (u := .lst vs) hx (R0.pnone hD)
  have h0 : ∀ {a}, a ≠ Da → (F.with P0 Da (.lst vs)).H0 a = F.H0 a := fun {a} e => by show upd F.H0 Da (.lst vs) a = F.H0 a; rw [upd_ne e]
  have no : ∀ {a}, (F.with P0 Da (.lst vs)).H0 a = none → a ≠ Da := fun {a} q t => by
    subst t
    have q : upd F.H0 a (.lst vs) a = none := q
    rw [upd_same] at q; cases q
  refine ⟨⟨R.len, R.sub, fun a ha => ⟨(R.nex a ha).1, (R0.nex a ha).2⟩, fun a z q hz => ?_, fun a q => ?_, fun a z q => ?_, R.val, fun i ys q => ?_, fun i ys q => R.arg i ys q, fun i c fs q => R.cns i c fs q, R.dist⟩, Da, vs, rfl, h1, hl, r, h2, f0, fun j ys e1 e2 => ?_⟩
  · have e : a ≠ Da := fun t => by subst t; rw [f0] at q; cases q
    exact R.frame a z (by rw [h0 e]; exact q) hz
  · have t := R.there a q
    rw [← h0 (no t)]; exact t
  · rcases R.old a z q with t | t
    · exact R0.old a z t
    · exact .inr (by rw [← h0 (no t)]; exact t)
  · obtain ⟨a, us, k1, k2, k3, k4, k5, k6⟩ := R.own i ys q
    exact ⟨a, us, k1, k2, k3, k4, k5, by rw [← h0 (no k6)]; exact k6⟩
  · obtain ⟨a, us, k1, k2, k3, k4, k5, k6⟩ := R.own j ys e1
    rw [e2] at k1; cases k1
    exact no k6 rfl
end
end VL

set_option Elab.async false
set_option linter.all false
set_option maxRecDepth 100000
set_option maxHeartbeats 4000000
/-! VL6: comprehensions, statements. -/
namespace VL
open PySem PySem.Spec L2

section
variable {C : Kx} {F : Fc} {X : Cx} {e a b c : PySem.Expr} {es : List PySem.Expr} {pos : Pos} {ma mb : M Hd} {ms : M (List Hd)} {ρ : En} {σ : L2.St} {P H P' H' : Hp}

/-! ### comprehensions -/
def forgetM (is : List Nat) : M Unit := fun ρ => .ok () (forget is ρ)
def compL (is : List Nat) (bnd : D → M Unit) (cond : M Bool) (elt : M Hd) : List D → M (List D)
  | [] => M.pure []
  | x :: xs => (forgetM is).bind fun _ => (bnd x).bind fun _ => cond.bind fun b => if b = true then elt.bind fun h => (frz h).bind fun y => (compL is bnd cond elt xs).bind fun ys => M.pure (y :: ys) else compL is bnd cond elt xs
def compEnd (is : List Nat) (ρ : En) : Res (List D) → Res (List D)
  | .ok ys ρ' => .ok ys (restore ρ is ρ')
  | _ => .stuck
def mComp (is : List Nat) (src : M (List D)) (bnd : D → M Unit) (cond : M Bool) (elt : M Hd) : M (List D) :=
  src.bind fun xs => fun ρ => if plainAt ρ is = true then compEnd is ρ (compL is bnd cond elt xs ρ) else .stuck
/-- what must hold behind the turns that are left, acc being made -/
def HoldC (C : Kx) (F : Fc) (W : WX) (σ : L2.St) (is : List Nat) (ρ1 : En) (Q : VK) (P : Hp) (acc : List D) : Res (List D) → Prop
  | .ok ys ρ' => Hold C F W σ P (Fresh C F σ) (.ok (acc ++ ys) (restore ρ1 is ρ')) Q
  | _ => False
theorem HoldC.bind {W : WX} {is : List Nat} {ρ1 : En} {Q : VK} {acc : List D} {α : Type} {m : M α} {k : α → M (List D)} (h : HoldC C F W σ is ρ1 Q P acc (M.bind m k ρ)) : ∃ a ρ', m ρ = .ok a ρ' ∧ HoldC C F W σ is ρ1 Q P acc (k a ρ') := by
  unfold M.bind at h
  cases e : m ρ with
  | ok a ρ' => rw [e] at h; exact ⟨a, ρ', rfl, h⟩
  | exc k ρ' => rw [e] at h; exact h.elim
  | stuck => rw [e] at h; exact h.elim
theorem HoldC.up {W : WX} {is : List Nat} {ρ1 : En} {Q : VK} {acc : List D} {r : Res (List D)} (h : HoldC C F W σ is ρ1 Q P acc r) (s : Same P P') : HoldC C F W σ is ρ1 Q P' acc r := by
  cases r with
  | ok ys ρ' => exact Hold.up (show Hold C F W σ P (Fresh C F σ) (.ok (acc ++ ys) (restore ρ1 is ρ')) Q from h) s
  | exc k ρ' => exact h.elim
  | stuck => exact h.elim
abbrev Wf : WX := fun _ _ _ _ => False
theorem drop_cons {α : Type} {xs : List α} {i : Nat} {x : α} (h : xs[i]? = some x) : xs.drop i = x :: xs.drop (i + 1) := by
  have hi := get_lt h
  rw [List.drop_eq_getElem_cons hi]
  rw [List.getElem?_eq_getElem hi] at h
  rw [Option.some.inj h]
theorem comp_reading {W : WX} {is : List Nat} {src : M (List D)} {bnd : D → M Unit} {cond : M Bool} {elt : M Hd} {Q : VK} (h : rdF C W (mComp is src bnd cond elt) σ H Q) :
    tLc (rdI C W src) (rdG C is bnd) (rdT C Wf cond) (rdH C Wf elt) is σ H Q := by
  obtain ⟨F, ρ, P, R, q⟩ := h
  refine ⟨F, ρ, P, R, (Hold.bind (R1 := RI C) q).imp ?_⟩
  rintro J H1 ⟨xs, ρ1, P1, s1, R1, ⟨it, hz⟩, q1⟩
  have q1 : Hold C F W σ P1 (Fresh C F σ) (if plainAt ρ1 is = true then compEnd is ρ1 (compL is bnd cond elt xs ρ1) else .stuck) Q := q1
  by_cases hp : plainAt ρ1 is = true
  · rw [if_pos hp] at q1
    intro Da hD
    have hx : ¬ F.ex Da := fun z => R1.exH z hD
    have pD := R1.pnone hD
    refine ⟨fun i m H => m = xs.length - i ∧ i ≤ xs.length ∧ ∃ accD accV ρ2 P2, accV.length ≤ i ∧ Same P1 P2 ∧ Rel C (F.with P1 Da (.lst accV)) (forget is ρ2) P2 (wipe σ is) H ∧ Reps C P2 accD accV ∧
      HoldC C F W σ is ρ1 Q P2 accD (compL is bnd cond elt (xs.drop i) ρ2), ⟨xs.length, by simp, Nat.zero_le _, [], [], ρ1, P1, Nat.le_refl _, Same.refl _, (R1.enter is).makes hD, Reps.nil, ?_⟩, ?_⟩
    · rw [List.drop_zero]
      cases ec : compL is bnd cond elt xs ρ1 with
      | ok ys ρ' =>
        rw [ec] at q1
        show Hold C F W σ P1 (Fresh C F σ) (.ok ([] ++ ys) (restore ρ1 is ρ')) Q
        rw [List.nil_append]
        exact q1
      | exc k ρ' => rw [ec] at q1; exact q1.elim
      | stuck => rw [ec] at q1; exact q1.elim
    · rintro i m H ⟨rfl, hi, accD, accV, ρ2, P2, hl, s2, R2, ra, qc⟩
      by_cases hlt : i < xs.length
      · refine .inr ?_
        have hsub : Same P1 H := s2.trans R2.sub
        obtain ⟨x, ex⟩ : ∃ x, xs[i]? = some x := ⟨xs[i], List.getElem?_eq_getElem hlt⟩
        obtain ⟨hgo, hy⟩ := (it i H hsub).2 x ex
        rw [drop_cons ex] at qc
        refine ⟨hgo, fun H => ∃ accD accV ρ2 P2, accV.length ≤ i + 1 ∧ Same P1 P2 ∧ Rel C (F.with P1 Da (.lst accV)) (forget is ρ2) P2 (wipe σ is) H ∧ Reps C P2 accD accV ∧
          HoldC C F W σ is ρ1 Q P2 accD (compL is bnd cond elt (xs.drop (i + 1)) ρ2), fun H' p' => ⟨xs.length - (i + 1), by omega, rfl, hlt, p'⟩, fun xv H' y => ?_⟩
        obtain ⟨P3, g, rx⟩ := hy xv H' y P2 s2 R2.sub
        obtain ⟨s3, R3⟩ := g.rel R2
        obtain ⟨u, ρ3, e3, qc⟩ := HoldC.bind qc
        cases e3
        obtain ⟨u, ρ4, e4, qc⟩ := HoldC.bind qc
        refine ⟨_, forget is ρ2, P3, x, R3, rx, ?_⟩
        rw [e4]
        intro σ2 off R4
        have hw : wipe σ2 is = wipe σ is := (wipe_eq off).trans (wipe_wipe σ is)
        refine ⟨hw, _, ρ4, P3, R4, ?_⟩
        obtain ⟨bb, ρ5, e5, qc⟩ := HoldC.bind qc
        rw [e5]
        rintro P5 H5 b5 s5 R5 rfl
        have s15 : Same P1 P5 := (s2.trans s3).trans s5
        cases bb with
        | false =>
          rw [if_neg Bool.false_ne_true] at qc ⊢
          refine ⟨accD, accV, ρ5, P5, Nat.le_succ_of_le hl, s15, ?_, ra.mono (s3.trans s5), qc.up (s3.trans s5)⟩
          rw [← hw]
          exact R5.enter is
        | true =>
          rw [if_pos rfl] at qc ⊢
          refine ⟨_, ρ5, P5, R5, ?_⟩
          obtain ⟨hh, ρ6, e6, qc⟩ := HoldC.bind qc
          rw [e6]
          intro P6 H6 v6 s6 R6 r6
          obtain ⟨yy, ρ7, e7, qc⟩ := HoldC.bind qc
          obtain ⟨P7, s7, R7, r7⟩ := frz_ok R6 r6 e7
          obtain ⟨h1, h2, R8⟩ := R7.grows (u := .lst (accV ++ [v6])) hx pD
          have s27 : Same P2 P7 := ((s3.trans s5).trans s6).trans s7
          refine ⟨accV, h1, by omega, accD ++ [yy], accV ++ [v6], ρ7, P7, by simp; omega, s2.trans s27, ?_, (ra.mono s27).append (Reps.cons r7 Reps.nil), ?_⟩
          · rw [← hw]
            exact R8.enter is
          · obtain ⟨ys, ρ8, e8, qc⟩ := HoldC.bind qc
            rw [e8]
            have qc : Hold C F W σ P2 (Fresh C F σ) (.ok (accD ++ (yy :: ys)) (restore ρ1 is ρ8)) Q := qc
            show Hold C F W σ P7 (Fresh C F σ) (.ok (accD ++ [yy] ++ ys) (restore ρ1 is ρ8)) Q
            rw [List.append_assoc]
            exact qc.up s27
      · have e : i = xs.length := by omega
        subst e
        refine .inl ⟨(it _ H (s2.trans R2.sub)).1 (Nat.le_refl _), ?_⟩
        rw [List.drop_length] at qc
        have qc : Hold C F W σ P2 (Fresh C F σ) (.ok (accD ++ []) (restore ρ1 is ρ2)) Q := qc
        rw [List.append_nil] at qc
        obtain ⟨R3, a, vs, e1, f1, f2, f3, f4, f5, f6⟩ := R2.made R1 hD (Nat.le_trans hl hz) ra
        refine qc P2 H (.ref Da) (Same.refl _) (R1.leave hp s2 R3) ⟨a, vs, e1, f1, f2, f3, f4, f5, fun j ys e2 e3 => ?_⟩
        have hl2 : ρ2.length = ρ1.length := by have := R3.len; rw [forget_length, wipe_length] at this; rw [this, R1.len]
        rcases restore_get hl2 e2 with ⟨k1, k2⟩ | ⟨k1, k2⟩
        · have := List.all_eq_true.mp hp j k1
          rw [k2] at this
          cases this
        · exact f6 j ys (by rw [forget_off k1]; exact k2) (by rw [wipe_off k1]; exact e3)
  · rw [if_neg hp] at q1; exact q1.elim
def SndTs (C : Kx) (X : Cx) (ifs : List PySem.Expr) (m : M Bool) : Prop := ∀ W, Takes X W → PTs X ifs (rdT C W m)
theorem sndTs_nil : SndTs C X [] (M.pure true) := fun W tk => ⟨fun pins s σ H Q I ⟨F, ρ, P, R, q⟩ => pts_nil.run pins s σ H Q I (q P H true (Same.refl _) R rfl)⟩
theorem sndTs_one {t : M Bool} (h : SndT C X e t) : SndTs C X [e] t := fun W tk => pts_one (h W tk)
theorem sndF_comp {elt tg iter : PySem.Expr} {ifs : List PySem.Expr} {scope : Scope} {own : List (Str × Nat)} {src : M (List D)} {bnd : D → M Unit} {cond : M Bool} {me : M Hd} (hc : X.calm = true) (hN : X.N.Nodup) (hi : SndI C X tg iter src) (ok : BlkOk X.N X.env.scope scope own)
    (hg : ∀ (s : Shared) (H : Hp) (c : Addr) (cl : List (Str × Addr)) (fp : List Addr), SndG C (X.blk s H scope (compEnvC scope cl c X.env) fp) tg (own.map (·.2)) bnd)
    (ht : ∀ (s : Shared) (H : Hp) (c : Addr) (cl : List (Str × Addr)) (fp : List Addr), SndTs C (X.blk s H scope (compEnvC scope cl c X.env) fp) ifs cond)
    (he : ∀ (s : Shared) (H : Hp) (c : Addr) (cl : List (Str × Addr)) (fp : List Addr), SndH C (X.blk s H scope (compEnvC scope cl c X.env) fp) elt me) (hs : ∀ x, foldedSetIterable iter X.env x = pure x) :
    SndF C X (.ListComp elt [⟨tg, iter, ifs, 0⟩] scope pos) (mComp (own.map (·.2)) src bnd cond me) :=
  fun W tk => (pe_lc hc hN (hi W tk) ok hg (fun s H c cl fp => ht s H c cl fp Wf takes0) (fun s H c cl fp => he s H c cl fp Wf takes0) hs).imp fun σ H Q h => comp_reading h
end
end VL

set_option Elab.async false
set_option linter.all false
set_option maxRecDepth 100000
set_option maxHeartbeats 4000000
/-! VL7: statements. -/
namespace VL
open PySem PySem.Spec L2

inductive SRes where
  | nx (ρ : En) | rt (r : RV) (ρ : En) | bk (ρ : En) | ct (ρ : En) | exc (c : Nat) (ρ : En) | stuck
  deriving Inhabited
abbrev SM := En → SRes
def M.bindS {α : Type} (m : M α) (k : α → SM) : SM := fun ρ => match m ρ with
  | .ok a ρ' => k a ρ'
  | .exc c ρ' => .exc c ρ'
  | .stuck => .stuck
def HoldS (C : Kx) (F : Fc) (W : WX) (P : Hp) : SRes → Ends → Prop
  | .nx ρ, D => ∀ P' H' σ', Same P P' → Rel C F ρ P' σ' H' → D.nx σ' H'
  | .rt r ρ, D => ∀ P' H' σ' v, Same P P' → Rel C F ρ P' σ' H' → RR C F σ' r v ρ P' H' → D.rt v H'
  | .bk ρ, D => ∀ P' H' σ', Same P P' → Rel C F ρ P' σ' H' → D.bk σ' H'
  | .ct ρ, D => ∀ P' H' σ', Same P P' → Rel C F ρ P' σ' H' → D.ct σ' H'
  | .exc c ρ, _ => ∀ P' H' σ', Same P P' → Rel C F ρ P' σ' H' → W (.ref (C.cls c)) none σ' H'
  | .stuck, _ => False
def rdS (C : Kx) (W : WX) (m : SM) : TS := fun D σ H => ∃ F ρ P, Rel C F ρ P σ H ∧ HoldS C F W P (m ρ) D
def SndS (C : Kx) (X : Cx) (st : Stmt) (m : SM) : Prop := ∀ W, Takes X W → PS X st (rdS C W m)
def SndSs (C : Kx) (X : Cx) (st : List Stmt) (m : SM) : Prop := ∀ W, Takes X W → PSs X st (rdS C W m)
theorem _root_.L2.PS.imp {X : Cx} {e : Stmt} {t t' : TS} (h : PS X e t) (f : ∀ D σ H, t' D σ H → t D σ H) : PS X e t' := ⟨fun pins s σ H D I q => h.run pins s σ H D I (f _ _ _ q)⟩
theorem _root_.L2.PSs.imp {X : Cx} {e : List Stmt} {t t' : TS} (h : PSs X e t) (f : ∀ D σ H, t' D σ H → t D σ H) : PSs X e t' := ⟨fun pins s σ H D I q => h.run pins s σ H D I (f _ _ _ q)⟩

section
variable {C : Kx} {F : Fc} {X : Cx} {e a b c : PySem.Expr} {es : List PySem.Expr} {pos : Pos} {ma mb : M Hd} {ms : M (List Hd)} {ρ : En} {σ : L2.St} {P H P' H' : Hp} {W : WX}
theorem HoldS.up {r : SRes} {D : Ends} (h : HoldS C F W P r D) (s : Same P P') : HoldS C F W P' r D := by
  cases r with
  | nx ρ => exact fun P1 H1 σ1 s1 R1 => h P1 H1 σ1 (s.trans s1) R1
  | rt r ρ => exact fun P1 H1 σ1 v s1 R1 rr => h P1 H1 σ1 v (s.trans s1) R1 rr
  | bk ρ => exact fun P1 H1 σ1 s1 R1 => h P1 H1 σ1 (s.trans s1) R1
  | ct ρ => exact fun P1 H1 σ1 s1 R1 => h P1 H1 σ1 (s.trans s1) R1
  | exc c ρ => exact fun P1 H1 σ1 s1 R1 => h P1 H1 σ1 (s.trans s1) R1
  | stuck => exact h
theorem HoldS.bind {α β : Type} {R1 : α → β → En → Hp → Hp → Prop} {m : M α} {k : α → SM} {D : Ends} (h : HoldS C F W P (M.bindS m k ρ) D) :
    Hold C F W σ P R1 (m ρ) (fun b H1 => ∃ a ρ1 P1, Same P P1 ∧ Rel C F ρ1 P1 σ H1 ∧ R1 a b ρ1 P1 H1 ∧ HoldS C F W P1 (k a ρ1) D) := by
  unfold M.bindS at h
  cases e : m ρ with
  | ok a ρ1 =>
    rw [e] at h
    exact fun P1 H1 b s1 r1 q1 => ⟨a, ρ1, P1, s1, r1, q1, HoldS.up h s1⟩
  | exc c ρ1 => rw [e] at h; exact fun P1 H1 s1 r1 => h P1 H1 σ s1 r1
  | stuck => rw [e] at h; exact h
theorem HoldS.frz {h : Hd} {v : V} {k : D → SM} {D : Ends} (R : Rel C F ρ P σ H) (r : HRep C P σ h v)
    (q : HoldS C F W P (M.bindS (VL.frz h) k ρ) D) : ∃ x ρ' P', Same P P' ∧ Rel C F ρ' P' σ H ∧ Rep C P' x v ∧ HoldS C F W P' (k x ρ') D := by
  unfold M.bindS at q
  cases e1 : VL.frz h ρ with
  | ok x ρ1 =>
    obtain ⟨P1, s1, R1, b1⟩ := frz_ok R r e1
    rw [e1] at q
    exact ⟨x, ρ1, P1, s1, R1, b1, q.up s1⟩
  | exc c ρ1 => exact (frz_noexc e1).elim
  | stuck => rw [e1] at q; exact q.elim
theorem HoldS.view {h : Hd} {v : V} {k : D → SM} {D : Ends} (R : Rel C F ρ P σ H) (r : HRep C P σ h v)
    (q : HoldS C F W P (M.bindS (VL.view h) k ρ) D) : ∃ x, RepB C P H x v ∧ HoldS C F W P (k x ρ) D := by
  unfold M.bindS at q
  cases e1 : VL.view h ρ with
  | ok x ρ1 =>
    obtain ⟨rfl, b1⟩ := view_ok R r e1
    rw [e1] at q
    exact ⟨x, b1, q⟩
  | exc c ρ1 => exact (view_noexc e1).elim
  | stuck => rw [e1] at q; exact q.elim
theorem HoldS.lift {α : Type} {o : Option α} {k : α → SM} {D : Ends} (q : HoldS C F W P (M.bindS (M.lift o) k ρ) D) : ∃ x, o = some x ∧ HoldS C F W P (k x ρ) D := by
  unfold M.bindS M.lift at q
  cases o with
  | some x => exact ⟨x, rfl, q⟩
  | none => exact q.elim
/-! ### blocks -/
def mNext : SM := fun ρ => .nx ρ
def mSeq (m k : SM) : SM := fun ρ => match m ρ with
  | .nx ρ' => k ρ'
  | r => r
theorem sndSs_nil : SndSs C X [] mNext := fun W tk => pss_nil.imp fun D σ H ⟨F, ρ, P, R, q⟩ => q P H σ (Same.refl _) R
theorem seq_reading {m k : SM} {D : Ends} (h : rdS C W (mSeq m k) D σ H) : tSeq (rdS C W m) (rdS C W k) D σ H := by
  obtain ⟨F, ρ, P, R, q⟩ := h
  refine ⟨F, ρ, P, R, ?_⟩
  unfold mSeq at q
  cases e : m ρ with
  | nx ρ' => rw [e] at q; exact fun P' H' σ' s R' => ⟨F, ρ', P', R', q.up s⟩
  | rt r ρ' => rw [e] at q; exact q
  | bk ρ' => rw [e] at q; exact q
  | ct ρ' => rw [e] at q; exact q
  | exc c ρ' => rw [e] at q; exact q
  | stuck => rw [e] at q; exact q
theorem sndSs_cons {st : Stmt} {rest : List Stmt} {m k : SM} (h1 : SndS C X st m) (h2 : SndSs C X rest k) : SndSs C X (st :: rest) (mSeq m k) := fun W tk => (pss_cons (h1 W tk) (h2 W tk)).imp fun D σ H h => seq_reading h
theorem sndS_pass : SndS C X (.Pass pos) mNext := fun W tk => ps_pass.imp fun D σ H ⟨F, ρ, P, R, q⟩ => q P H σ (Same.refl _) R
def mBreak : SM := fun ρ => .bk ρ
def mCont : SM := fun ρ => .ct ρ
theorem sndS_break : SndS C X (.Break pos) mBreak := fun W tk => ps_break.imp fun D σ H ⟨F, ρ, P, R, q⟩ => q P H σ (Same.refl _) R
theorem sndS_continue : SndS C X (.Continue pos) mCont := fun W tk => ps_continue.imp fun D σ H ⟨F, ρ, P, R, q⟩ => q P H σ (Same.refl _) R
def mIfS (t : M Bool) (x y : SM) : SM := M.bindS t fun b => if b = true then x else y
theorem sndS_if {t : M Bool} {x y : SM} {s1 s2 : List Stmt} (hc : SndT C X c t) (ha : SndSs C X s1 x) (hb : SndSs C X s2 y) : SndS C X (.If c s1 s2 pos) (mIfS t x y) := fun W tk => (ps_if (hc W tk) (ha W tk) (hb W tk)).imp fun D σ H ⟨F, ρ, P, R, q⟩ => by
  refine ⟨F, ρ, P, R, (HoldS.bind (R1 := RT) q).imp ?_⟩
  rintro v H1 ⟨h1, ρ1, P1, s1, R1, rfl, q1⟩
  cases h1 with
  | true => rw [if_pos rfl] at q1 ⊢; exact ⟨F, ρ1, P1, R1, q1⟩
  | false => rw [if_neg Bool.false_ne_true] at q1 ⊢; exact ⟨F, ρ1, P1, R1, q1⟩
/-! ### assignments -/
def M.nxt (m : M Unit) : SM := M.bindS m fun _ => mNext
def mAsg (m : M Hd) (bnd : D → M Unit) : SM := M.bindS m fun h => M.bindS (frz h) fun x => (bnd x).nxt
theorem nxt_G {vs : List Nat} {m : M Unit} {D : Ends} (R : Rel C F ρ P σ H) (q : HoldS C F W P (m.nxt ρ) D) : HoldG C F vs σ P H (m ρ) D.nx ∨ ∃ c ρ', m ρ = .exc c ρ' := by
  unfold M.nxt M.bindS mNext at q
  cases e : m ρ with
  | ok u ρ' => rw [e] at q; exact .inl fun σ' o R' => q P H σ' (Same.refl _) R'
  | exc c ρ' => exact .inr ⟨c, ρ', rfl⟩
  | stuck => rw [e] at q; exact q.elim
def NoExc (bnd : D → M Unit) : Prop := ∀ x ρ c ρ', bnd x ρ ≠ .exc c ρ'
theorem noExc_name (i : Nat) : NoExc fun d => setSl i (.d d) := fun x ρ c ρ' h => setSl_noexc h
theorem noExc_names (is : List Nat) : ∀ (xs : List D) (ρ : En) (c : Nat) (ρ' : En), bindNames is xs ρ ≠ .exc c ρ' := by
  induction is with
  | nil =>
    intro xs ρ c ρ' h
    cases xs with
    | nil => cases (show Res.ok () ρ = Res.exc c ρ' from h)
    | cons x xs => cases (show (Res.stuck : Res Unit) = Res.exc c ρ' from h)
  | cons i is ih =>
    intro xs ρ c ρ' h
    cases xs with
    | nil => cases (show (Res.stuck : Res Unit) = Res.exc c ρ' from h)
    | cons d ds =>
      have h : M.bind (setSl i (.d d)) (fun _ => bindNames is ds) ρ = .exc c ρ' := h
      unfold M.bind at h
      cases e : setSl i (.d d) ρ with
      | ok u ρ1 => rw [e] at h; exact ih ds ρ1 c ρ' h
      | exc k ρ1 => exact setSl_noexc e
      | stuck => rw [e] at h; cases h
theorem noExc_tup (is : List Nat) : NoExc (bndTup is) := fun x ρ c ρ' h => by
  cases x <;> first | exact noExc_names is _ ρ c ρ' h | cases h
theorem asg_reading {vs : List Nat} {bnd : D → M Unit} {D : Ends} (hb : NoExc bnd) (h : rdS C W (mAsg ma bnd) D σ H) : tAsg (rdH C W ma) (rdG C vs bnd) D σ H := by
  obtain ⟨F, ρ, P, R, q⟩ := h
  refine ⟨F, ρ, P, R, (HoldS.bind (R1 := RH C σ) q).imp ?_⟩
  rintro v H1 ⟨h1, ρ1, P1, s1, R1, r1, q1⟩
  obtain ⟨x, ρ2, P2, s2, R2, r2, q2⟩ := HoldS.frz R1 r1 q1
  rcases nxt_G (vs := vs) R2 q2 with z | ⟨c, ρ', z⟩
  · exact ⟨F, ρ2, P2, x, R2, r2, z⟩
  · exact (hb _ _ _ _ z).elim
theorem sndS_asg {tg : PySem.Expr} {vs : List Nat} {bnd : D → M Unit} (hb : NoExc bnd) (ha : SndH C X a ma) (hg : SndG C X tg vs bnd) (hs : swapsWithSole [tg] a pos.line X.env = pure false) (hw : swappedStores [tg] a X.env = pure none)
    (h1 : (assignEach [tg] X.env).map (·.2) = [assign tg X.env]) : SndS C X (.Assign [tg] a pos) (mAsg ma bnd) := fun W tk => (ps_asg (ha W tk) hg hs hw h1).imp fun D σ H h => asg_reading hb h
/-- a name is given a new list of its own -/
def mOwn (m : M (List D)) (i : Nat) : SM := M.bindS m fun xs => (setSl i (.own xs)).nxt
theorem own_reading {m : M (List D)} {i : Nat} {D : Ends} (h : rdS C W (mOwn m i) D σ H) : tAsg (rdF C W m) (gName i) D σ H := by
  obtain ⟨F, ρ, P, R, q⟩ := h
  refine ⟨F, ρ, P, R, (HoldS.bind (R1 := Fresh C F σ) q).imp ?_⟩
  rintro v H1 ⟨xs, ρ1, P1, s1, R1, ⟨ad, vs, rfl, f1, f2, f3, f4, f5, f6⟩, q1⟩
  unfold M.nxt M.bindS mNext at q1
  cases e : setSl i (.own xs) ρ1 with
  | ok u ρ' =>
    rw [e] at q1
    obtain ⟨rfl, t, k1, k2⟩ := setSl_ok e
    exact q1 P1 H1 _ (Same.refl _) (R1.setOwn k1 k2 f1 f2 f3 f4 f5 f6)
  | exc c ρ' => exact (setSl_noexc e).elim
  | stuck => rw [e] at q1; exact q1.elim
theorem sndS_own {tg : PySem.Expr} {i : Nat} {m : M (List D)} (ha : SndF C X a m) (hg : PG X tg (gName i)) (hs : swapsWithSole [tg] a pos.line X.env = pure false) (hw : swappedStores [tg] a X.env = pure none)
    (h1 : (assignEach [tg] X.env).map (·.2) = [assign tg X.env]) : SndS C X (.Assign [tg] a pos) (mOwn m i) := fun W tk => (ps_asg (ha W tk) hg hs hw h1).imp fun D σ H h => own_reading h
/-- name = [.. for ..], the name a local: frozen, or of its own -/
def mOwnD (m : M (List D)) (i : Nat) : SM := M.bindS m fun xs => (setSl i (.d (.lst xs))).nxt
theorem ownD_reading {m : M (List D)} {i : Nat} {D : Ends} (h : rdS C W (mOwnD m i) D σ H) : tAsg (rdF C W m) (gName i) D σ H := by
  obtain ⟨F, ρ, P, R, q⟩ := h
  refine ⟨F, ρ, P, R, (HoldS.bind (R1 := Fresh C F σ) q).imp ?_⟩
  rintro v H1 ⟨xs, ρ1, P1, s1, R1, f, q1⟩
  obtain ⟨P2, s2, R2, r2⟩ := R1.frzFresh f
  unfold M.nxt M.bindS mNext at q1
  cases e : setSl i (.d (.lst xs)) ρ1 with
  | ok u ρ' =>
    rw [e] at q1
    obtain ⟨rfl, t, k1, k2⟩ := setSl_ok e
    exact q1 P2 H1 _ s2 (R2.setD k1 k2 r2)
  | exc c ρ' => exact (setSl_noexc e).elim
  | stuck => rw [e] at q1; exact q1.elim
section
variable {elt tg iter : PySem.Expr} {ifs : List PySem.Expr} {scope : Scope} {own : List (Str × Nat)} {src : M (List D)} {bnd : D → M Unit} {cond : M Bool} {me : M Hd} {i : Nat} {y : Str} {py spos : Pos}
theorem comp_tasg {W : WX} {is : List Nat} {D : Ends} {σ : L2.St} {H : Hp} (z : tAsg (rdF C W (mComp is src bnd cond me)) (gName i) D σ H) : tAsg (tLc (rdI C W src) (rdG C is bnd) (rdT C Wf cond) (rdH C Wf me) is) (gName i) D σ H := by
  unfold tAsg at z ⊢
  exact comp_reading z
theorem sndS_setLc {k : M (List D) → Nat → SM} (hk : ∀ W m i D σ H, rdS C W (k m i) D σ H → tAsg (rdF C W m) (gName i) D σ H) (hc : X.calm = true) (hN : X.N.Nodup) (hy : X.N[i]? = some y) (hyl : X.env.scope.names.lookup y = some .local)
    (hsw : swapsWith (.ListComp elt [⟨tg, iter, ifs, 0⟩] scope pos) (some (.Name y py)) spos.line X.env = pure true) (hi : SndI C X tg iter src) (ok : BlkOk X.N X.env.scope scope own)
    (hg : ∀ (s : Shared) (H : Hp) (c : Addr) (cl : List (Str × Addr)) (fp : List Addr), SndG C (X.blk s H scope (compEnvC scope cl c X.env) fp) tg (own.map (·.2)) bnd)
    (ht : ∀ (s : Shared) (H : Hp) (c : Addr) (cl : List (Str × Addr)) (fp : List Addr), SndTs C (X.blk s H scope (compEnvC scope cl c X.env) fp) ifs cond)
    (he : ∀ (s : Shared) (H : Hp) (c : Addr) (cl : List (Str × Addr)) (fp : List Addr), SndH C (X.blk s H scope (compEnvC scope cl c X.env) fp) elt me) (hs : ∀ x, foldedSetIterable iter X.env x = pure x) :
    SndS C X (.Assign [.Name y py] (.ListComp elt [⟨tg, iter, ifs, 0⟩] scope pos) spos) (k (mComp (own.map (·.2)) src bnd cond me) i) :=
  fun W tk => (ps_setLc hc hN hy hyl hsw (hi W tk) ok hg (fun s H c cl fp => ht s H c cl fp Wf takes0) (fun s H c cl fp => he s H c cl fp Wf takes0) hs).imp fun D σ H h => comp_tasg (hk W _ _ _ _ _ h)
end
/-! ### name op= value -/
def mAug (i : Nat) (f : Int → Int → Int) (m : M Hd) : SM := fun ρ => match ρ[i]? with
  | some (.d (.int x)) => M.bindS m (fun h => M.bindS (M.lift (match h with | .d (.int y) => some y | _ => none)) fun y => (setSl i (.d (.int (f x y)))).nxt) ρ
  | _ => .stuck
theorem sndS_aug {x : Str} {op : Operator} {f : Int → Int → Int} {i : Nat} {pos' : Pos} (hN : X.N.Nodup) (hi : X.N[i]? = some x) (hx : Loc X.env.scope x) (ha : SndH C X a ma) (ho : PIp X op (ipI f)) (hf : X.fn x = true ∨ X.env.scope.names.lookup x = some .local) :
    SndS C X (.AugAssign (.Name x pos') op a pos) (mAug i f ma) := fun W tk => (ps_aug hN hi hx (ha W tk) ho hf).imp fun D σ H ⟨F, ρ, P, R, q⟩ => by
  unfold mAug at q
  cases e : ρ[i]? with
  | none => rw [e] at q; exact q.elim
  | some s =>
    rw [e] at q
    cases s with
    | d x0 =>
      cases x0 with
      | int x0 =>
        obtain ⟨v, h1, h2⟩ := R.val i _ e
        have h2 := h2.int
        subst h2
        refine ⟨.int x0, h1, F, ρ, P, R, (HoldS.bind (R1 := RH C σ) q).imp ?_⟩
        rintro v H1 ⟨hh, ρ1, P1, s1, R1, r1, q1⟩
        obtain ⟨y, ey, q2⟩ := HoldS.lift q1
        cases hh with
        | sl _ => cases ey
        | d z =>
          cases z with
          | int y' =>
            cases ey
            have r1 : Rep C P1 (.int y) v := r1
            refine ⟨x0, y, rfl, r1.int, ?_⟩
            unfold M.nxt M.bindS mNext at q2
            cases e2 : setSl i (.d (.int (f x0 y))) ρ1 with
            | ok u ρ' =>
              rw [e2] at q2
              obtain ⟨rfl, t, k1, k2⟩ := setSl_ok e2
              exact q2 P1 H1 _ (Same.refl _) (R1.setD k1 k2 Rep.ofInt)
            | exc c ρ' => exact (setSl_noexc e2).elim
            | stuck => rw [e2] at q2; exact q2.elim
          | _ => cases ey
      | _ => exact q.elim
    | _ => exact q.elim
/-! ### expressions as statements; the list of a slot -/
def mExpr (m : M Hd) : SM := M.bindS m fun _ => mNext
theorem sndS_expr (ha : SndH C X a ma) (hs : swapsWith a none pos.line X.env = pure false) : SndS C X (.Expr a pos) (mExpr ma) := fun W tk => (ps_expr (ha W tk) hs).imp fun D σ H ⟨F, ρ, P, R, q⟩ => by
  refine ⟨F, ρ, P, R, (HoldS.bind (R1 := RH C σ) q).imp ?_⟩
  rintro v H1 ⟨hh, ρ1, P1, s1, R1, r1, q1⟩
  exact q1 P1 H1 σ (Same.refl _) R1
/-- the list of slot i is changed to ys, r handed back -/
def chg (i : Nat) (f : List D → Option (List D × D)) : M Hd := fun ρ => match ρ[i]? with
  | some s => (match s.lst? with
    | some xs => (match f xs with
      | some (ys, r) => .ok (.d r) (ρ.set i (s.put ys))
      | none => .stuck)
    | none => .stuck)
  | none => .stuck
theorem Rel.store (R : Rel C F ρ P σ H) {i : Nat} {s : Sl} {xs ys : List D} {ad : Addr} {us : List V} (e : ρ[i]? = some s) (hs : s = .own xs ∨ s = .arg xs) (ha : σ[i]? = some (some (.ref ad))) (hl : us.length ≤ sizeLine) (r : Reps C P ys us) :
    Rel C F (ρ.set i (s.put ys)) P σ (upd H ad (.lst us)) := by
  rcases hs with rfl | rfl
  · exact R.storeOwn e ha hl r
  · exact R.storeArg e ha hl r
theorem Rel.slotList (R : Rel C F ρ P σ H) {i : Nat} {s : Sl} {xs : List D} (e : ρ[i]? = some s) (hs : s = .own xs ∨ s = .arg xs) : ∃ ad us, σ[i]? = some (some (.ref ad)) ∧ H ad = some (.lst us) ∧ us.length ≤ sizeLine ∧ Reps C P xs us := by
  rcases hs with rfl | rfl
  · obtain ⟨a, us, h1, h2, h3, h4, _⟩ := R.own i xs e
    exact ⟨a, us, h1, h2, h3, h4⟩
  · obtain ⟨_, a, us, h1, _, h2, h3, h4⟩ := R.arg i xs e
    exact ⟨a, us, h1, h2, h3, h4⟩
theorem chg_ok {i : Nat} {f : List D → Option (List D × D)} {h : Hd} {ρ' : En} (e : chg i f ρ = .ok h ρ') : ∃ s xs ys r, ρ[i]? = some s ∧ (s = .own xs ∨ s = .arg xs) ∧ f xs = some (ys, r) ∧ h = .d r ∧ ρ' = ρ.set i (s.put ys) := by
  unfold chg at e
  cases e1 : ρ[i]? with
  | none => rw [e1] at e; cases e
  | some s =>
    rw [e1] at e
    dsimp only at e
    cases e2 : s.lst? with
    | none => rw [e2] at e; cases e
    | some xs =>
      rw [e2] at e
      dsimp only at e
      cases e3 : f xs with
      | none => rw [e3] at e; cases e
      | some p =>
        obtain ⟨ys, r⟩ := p
        rw [e3] at e
        cases e
        exact ⟨s, xs, ys, r, rfl, Sl.lst_cases e2, e3, rfl, rfl⟩
theorem chg_noexc {i c : Nat} {f : List D → Option (List D × D)} {ρ' : En} (e : chg i f ρ = .exc c ρ') : False := by
  unfold chg at e
  cases e1 : ρ[i]? with
  | none => rw [e1] at e; cases e
  | some s =>
    rw [e1] at e
    dsimp only at e
    cases e2 : s.lst? with
    | none => rw [e2] at e; cases e
    | some xs =>
      rw [e2] at e
      dsimp only at e
      cases e3 : f xs with
      | none => rw [e3] at e; cases e
      | some p => rw [e3] at e; cases e
/-- a method of the list of slot i without arguments -/
def Mt0 (C : Kx) (r : V → List V → Hp → VK → Prop) (f : List D → Option (List D × D)) : Prop := ∀ (P H : Hp) (a : Addr) (xs ys : List D) (z : D) (us : List V) (Q : VK), H a = some (.lst us) → us.length ≤ sizeLine → Reps C P xs us → f xs = some (ys, z) →
  (∀ ws w, ws.length ≤ sizeLine → Reps C P ys ws → Rep C P z w → Q w (upd H a (.lst ws))) → r (.ref a) [] H Q
theorem snd_meth0 {i : Nat} {name : Str} {id : String} {apos : Pos} {r : V → List V → Hp → VK → Prop} {f : List D → Option (List D × D)} (hm : Mt0 C r f) (pe : ∀ {to : TE}, PE X a to → PE X e (tBM0 X.K "list" r to)) (ha : PE X a (tVar i)) : SndH C X e (chg i f) :=
  fun W tk => (pe ha).imp fun σ H Q ⟨F, ρ, P, R, q⟩ => by
    cases ec : chg i f ρ with
    | exc c ρ' => exact (chg_noexc ec).elim
    | stuck => rw [ec] at q; exact q.elim
    | ok h ρ' =>
      rw [ec] at q
      obtain ⟨s, xs, ys, z, k1, k2, k3, rfl, rfl⟩ := chg_ok ec
      obtain ⟨ad, us, h1, h2, h3, h4⟩ := R.slotList k1 k2
      refine ⟨_, h1, .inl ⟨rfl, us, SqL.of h2⟩, hm P H ad xs ys z us Q h2 h3 h4 k3 fun ws w hl rw' rz => ?_⟩
      exact q P _ w (Same.refl _) (R.store k1 k2 h1 hl rw') rz
/-- .. with arguments, kept by the list -/
def MtN (C : Kx) (r : V → List V → Hp → VK → Prop) (f : List D → List D → Option (List D × D)) : Prop := ∀ (P H : Hp) (a : Addr) (as xs ys : List D) (z : D) (vs us : List V) (Q : VK), H a = some (.lst us) → us.length ≤ sizeLine → Reps C P as vs → Same P H → Reps C P xs us → f as xs = some (ys, z) →
  (∀ ws w, ws.length ≤ sizeLine → Reps C P ys ws → Rep C P z w → Q w (upd H a (.lst ws))) → r (.ref a) vs H Q
def mMeth (i : Nat) (f : List D → List D → Option (List D × D)) (ms : M (List Hd)) : M Hd := fun ρ => match ρ[i]? with
  | some s => (match s.lst? with
    | some _ => M.bind ms (fun hs => M.bind (frzAll hs) fun as => chg i (f as)) ρ
    | none => .stuck)
  | none => .stuck
theorem snd_methN {i : Nat} {r : V → List V → Hp → VK → Prop} {f : List D → List D → Option (List D × D)} (hm : MtN C r f) (pe : ∀ {to : TE} {t : TA}, PE X a to → PA X es t → PE X e (tBM X.K "list" r to t)) (ha : PE X a (tVar i)) (hs : SndA C X es ms) : SndH C X e (mMeth i f ms) :=
  fun W tk => (pe ha (hs W tk)).imp fun σ H Q ⟨F, ρ, P, R, q⟩ => by
    unfold mMeth at q
    cases e0 : ρ[i]? with
    | none => rw [e0] at q; exact q.elim
    | some s0 =>
      rw [e0] at q
      dsimp only at q
      cases e1 : s0.lst? with
      | none => rw [e1] at q; exact q.elim
      | some xs0 =>
        rw [e1] at q
        dsimp only at q
        obtain ⟨ad, us0, h1, h2, _⟩ := R.slotList e0 (Sl.lst_cases e1)
        refine ⟨_, h1, .inl ⟨rfl, us0, SqL.of h2⟩, F, ρ, P, R, (Hold.bind (R1 := RA C σ) q).imp ?_⟩
        rintro vs H1 ⟨hh, ρ1, P1, s1, R1, r1, q1⟩
        obtain ⟨as, ρ2, P2, s2, R2, r2, q2⟩ := Hold.frzAll R1 r1 q1
        cases ec : chg i (f as) ρ2 with
        | exc c ρ' => exact (chg_noexc ec).elim
        | stuck => rw [ec] at q2; exact q2.elim
        | ok h ρ' =>
          rw [ec] at q2
          obtain ⟨s, xs, ys, z, k1, k2, k3, rfl, rfl⟩ := chg_ok ec
          obtain ⟨ad', us, g1, g2, g3, g4⟩ := R2.slotList k1 k2
          rw [h1] at g1
          cases g1
          refine hm P2 H1 ad as xs ys z vs us Q g2 g3 r2 R2.sub g4 k3 fun ws w hl rw' rz => ?_
          exact q2 P2 _ w (Same.refl _) (R2.store k1 k2 h1 hl rw') rz
/-- x[k] = v, x the list of slot i -/
def guardL (i : Nat) : M Unit := fun ρ => match ρ[i]? with
  | some s => (match s.lst? with
    | some _ => .ok () ρ
    | none => .stuck)
  | none => .stuck
theorem guardL_ok {i : Nat} {r : Res Unit} (e : guardL i ρ = r) : r = .stuck ∨ ∃ s xs, r = .ok () ρ ∧ ρ[i]? = some s ∧ (s = .own xs ∨ s = .arg xs) := by
  unfold guardL at e
  cases e1 : ρ[i]? with
  | none => rw [e1] at e; exact .inl e.symm
  | some s =>
    rw [e1] at e
    dsimp only at e
    cases e2 : s.lst? with
    | none => rw [e2] at e; exact .inl e.symm
    | some xs => rw [e2] at e; exact .inr ⟨s, xs, e.symm, rfl, Sl.lst_cases e2⟩
theorem HoldS.guardL {i : Nat} {k : Unit → SM} {D : Ends} (q : HoldS C F W P (M.bindS (VL.guardL i) k ρ) D) : ∃ s xs, ρ[i]? = some s ∧ (s = .own xs ∨ s = .arg xs) ∧ HoldS C F W P (k () ρ) D := by
  unfold M.bindS at q
  rcases guardL_ok (i := i) (ρ := ρ) rfl with e | ⟨s, xs, e, h1, h2⟩
  · rw [e] at q; exact q.elim
  · rw [e] at q; exact ⟨s, xs, h1, h2, q⟩
def mSetI (i : Nat) (mk mv : M Hd) : SM := M.bindS mv fun hv => M.bindS (frz hv) fun v => M.bindS (guardL i) fun _ => M.bindS mk fun hk => M.bindS (M.lift (match hk with | .d (.int k) => some k | _ => none)) fun k =>
  M.bindS (chg i fun xs => (ixN xs.length k).map fun j => (xs.set j v, .non)) fun _ => mNext
theorem sndS_setI {o k : PySem.Expr} {i : Nat} {tpos : Pos} (hv : SndH C X a ma) (ho : PE X o (tVar i)) (hk : SndH C X k mb) (pg : ∀ {to ti : TE}, PE X o to → PE X k ti → PG X e (gSub to ti rSetL)) (hs : swapsWithSole [e] a pos.line X.env = pure false) (hw : swappedStores [e] a X.env = pure none)
    (h1 : (assignEach [e] X.env).map (·.2) = [assign e X.env]) : SndS C X (.Assign [e] a pos) (mSetI i mb ma) := fun W tk => (ps_asg (hv W tk) (pg ho (hk W tk)) hs hw h1).imp fun D σ H ⟨F, ρ, P, R, q⟩ => by
  refine ⟨F, ρ, P, R, (HoldS.bind (R1 := RH C σ) q).imp ?_⟩
  rintro v H1 ⟨hh, ρ1, P1, s1, R1, r1, q1⟩
  obtain ⟨x, ρ2, P2, s2, R2, r2, q2⟩ := HoldS.frz R1 r1 q1
  obtain ⟨s0, xs0, e0, hs0, q3⟩ := HoldS.guardL q2
  obtain ⟨ad, us0, g1, g2, _⟩ := R2.slotList e0 hs0
  refine ⟨_, g1, F, ρ2, P2, R2, (HoldS.bind (R1 := RH C σ) q3).imp ?_⟩
  rintro u H2 ⟨hk, ρ3, P3, s3, R3, r3, q4⟩
  obtain ⟨kk, ek, q5⟩ := HoldS.lift q4
  have eu : u = .int kk := by
    cases hk with
    | sl _ => cases ek
    | d z =>
      cases z with
      | int z' => cases ek; exact (show Rep C P3 (.int kk) u from r3).int
      | _ => cases ek
  subst eu
  unfold M.bindS at q5
  cases ec : chg i (fun xs => (ixN xs.length kk).map fun j => (xs.set j x, .non)) ρ3 with
  | exc c ρ' => exact (chg_noexc ec).elim
  | stuck => rw [ec] at q5; exact q5.elim
  | ok h ρ' =>
    rw [ec] at q5
    obtain ⟨s, xs, ys, z, k1, k2, k3, rfl, rfl⟩ := chg_ok ec
    obtain ⟨ad', us, w1, w2, w3, w4⟩ := R3.slotList k1 k2
    rw [g1] at w1
    cases w1
    cases ej : ixN xs.length kk with
    | none => rw [ej] at k3; cases k3
    | some j =>
      rw [ej] at k3
      cases k3
      refine ⟨ad, us, kk, j, rfl, rfl, w2, by rw [← w4.length]; exact ej, ?_⟩
      exact q5 P3 _ σ (Same.refl _) (R3.store k1 k2 g1 (by simpa using w3) (w4.set (r2.mono s3)))
/-! ### return, raise -/
def mRet (m : M Hd) : SM := M.bindS m fun h => match h with
  | .d x => fun ρ => .rt (.d x) ρ
  | .sl i => fun ρ => match ρ[i]? with
    | some (.own xs) => .rt (.fr xs) (ρ.set i .un)
    | _ => .stuck
theorem Rel.drop (R : Rel C F ρ P σ H) (i : Nat) : Rel C F (ρ.set i .un) P σ H := by
  have g : ∀ {j : Nat} {s : Sl}, (ρ.set i .un)[j]? = some s → s ≠ .un → ρ[j]? = some s := fun {j s} e hs => by
    rcases get_set_cases e with ⟨_, z, _⟩ | ⟨_, z⟩
    · exact (hs z).elim
    · exact z
  exact ⟨by simpa using R.len, R.sub, R.nex, R.frame, R.there, R.old, fun j x q => R.val j x (g q (by intro z; cases z)), fun j x q => R.own j x (g q (by intro z; cases z)), fun j x q => R.arg j x (g q (by intro z; cases z)),
    fun j c fs q => R.cns j c fs (g q (by intro z; cases z)), fun j k a xs ys q1 q2 q3 q4 => R.dist j k a xs ys (g q1 (by intro z; cases z)) (g q2 (by intro z; cases z)) q3 q4⟩
theorem sndS_ret (ha : SndH C X a ma) : SndS C X (.Return (some a) pos) (mRet ma) := fun W tk => (ps_ret (ha W tk)).imp fun D σ H ⟨F, ρ, P, R, q⟩ => by
  refine ⟨F, ρ, P, R, (HoldS.bind (R1 := RH C σ) q).imp ?_⟩
  rintro v H1 ⟨hh, ρ1, P1, s1, R1, r1, q1⟩
  cases hh with
  | d x => exact q1 P1 H1 σ v (Same.refl _) R1 r1
  | sl i =>
    dsimp only at q1
    have r1 : σ[i]? = some (some v) := r1
    cases e : ρ1[i]? with
    | none => rw [e] at q1; exact q1.elim
    | some s =>
      rw [e] at q1
      cases s with
      | own xs =>
        obtain ⟨ad, us, h1, h2, h3, h4, h5, h6⟩ := R1.own i xs e
        rw [r1] at h1
        cases h1
        refine q1 P1 H1 σ _ (Same.refl _) (R1.drop i) ⟨ad, us, rfl, h2, h3, h4, h5, h6, fun j ys e1 e2 => ?_⟩
        rcases get_set_cases e1 with ⟨_, z, _⟩ | ⟨hj, z⟩
        · cases z
        · exact hj (R1.dist j i ad ys xs z e e2 r1)
      | _ => exact q1.elim
def mRetF (m : M (List D)) : SM := M.bindS m fun xs => fun ρ => .rt (.fr xs) ρ
theorem sndS_retF {m : M (List D)} (ha : SndF C X a m) : SndS C X (.Return (some a) pos) (mRetF m) := fun W tk => (ps_ret (ha W tk)).imp fun D σ H ⟨F, ρ, P, R, q⟩ => by
  refine ⟨F, ρ, P, R, (HoldS.bind (R1 := Fresh C F σ) q).imp ?_⟩
  rintro v H1 ⟨hh, ρ1, P1, s1, R1, r1, q1⟩
  exact q1 P1 H1 σ v (Same.refl _) R1 r1
def mRetN : SM := fun ρ => .rt (.d .non) ρ
theorem sndS_retN : SndS C X (.Return none pos) mRetN := fun W tk => ps_retN.imp fun D σ H ⟨F, ρ, P, R, q⟩ => q P H σ .non (Same.refl _) R (show Rep C P .non _ from Rep.ofNon)
def mRaise (c : Nat) (ms : M (List Hd)) : SM := M.bindS ms fun _ => fun ρ => .exc c ρ
theorem sndS_raise {k : Nat} (hc : X.calm = true) (ha : SndA C X es ms) (hl : es.length ≤ 1000) (pm : ∀ {t : TA}, PA X es t → PMk X e (fun σ H Q => t σ H fun vs H1 => vs.length ≤ sizeLine ∧ Q (.ref (C.cls k)) none H1))
    (hn : ∀ (W : WX) (σ : L2.St) (H : Hp) (Q : List V → Hp → Prop), rdA C W ms σ H Q → rdA C W ms σ H (fun vs H1 => vs.length ≤ 1000 ∧ Q vs H1)) : SndS C X (.Raise (some e) none pos) (mRaise k ms) :=
  fun W tk => (ps_raise hc tk (pm (ha W tk))).imp fun D σ H ⟨F, ρ, P, R, q⟩ => by
    have z : rdA C W ms σ H (fun vs H1 => W (.ref (C.cls k)) none σ H1) := by
      refine ⟨F, ρ, P, R, (HoldS.bind (R1 := RA C σ) q).imp ?_⟩
      rintro vs H1 ⟨hh, ρ1, P1, s1, R1, r1, q1⟩
      exact q1 P1 H1 σ (Same.refl _) R1
    have z2 := hn W σ H _ z
    obtain ⟨F, ρ, P, R, q⟩ := z2
    refine ⟨F, ρ, P, R, Hold.imp q fun vs H1 ⟨h1, h2⟩ => ⟨small_le h1, h2⟩⟩
where small_le {n : Nat} (h : n ≤ 1000) : n ≤ sizeLine := Nat.le_of_lt (small1000 h)
/-! ### loops -/
def forL (bnd : D → M Unit) (body : SM) : List D → SM
  | [] => mNext
  | x :: xs => fun ρ => match bnd x ρ with
    | .ok _ ρ1 => (match body ρ1 with
      | .nx ρ2 => forL bnd body xs ρ2
      | .ct ρ2 => forL bnd body xs ρ2
      | .bk ρ2 => .nx ρ2
      | r => r)
    | _ => .stuck
def mFor (src : M (List D)) (bnd : D → M Unit) (body : SM) : SM := M.bindS src fun xs => forL bnd body xs
theorem for_reading {src : M (List D)} {vs : List Nat} {bnd : D → M Unit} {body : SM} {D : Ends} (h : rdS C W (mFor src bnd body) D σ H) : tFor (rdI C W src) (rdG C vs bnd) (rdS C W body) D σ H := by
  obtain ⟨F, ρ, P, R, q⟩ := h
  refine ⟨F, ρ, P, R, (HoldS.bind (R1 := RI C) q).imp ?_⟩
  rintro J H1 ⟨xs, ρ1, P1, s1, R1, ⟨it, hz⟩, q1⟩
  refine ⟨fun i m σ H => m = xs.length - i ∧ i ≤ xs.length ∧ ∃ ρ P, Same P1 P ∧ Rel C F ρ P σ H ∧ HoldS C F W P (forL bnd body (xs.drop i) ρ) D, ⟨xs.length, by simp, Nat.zero_le _, ρ1, P1, Same.refl _, R1, q1⟩, ?_⟩
  rintro i m σ H ⟨rfl, hi, ρ2, P2, s2, R2, q2⟩
  by_cases hlt : i < xs.length
  · refine .inr ?_
    obtain ⟨x, ex⟩ : ∃ x, xs[i]? = some x := ⟨xs[i], List.getElem?_eq_getElem hlt⟩
    obtain ⟨hgo, hy⟩ := (it i H (s2.trans R2.sub)).2 x ex
    rw [drop_cons ex] at q2
    refine ⟨hgo, fun σ H => ∃ ρ P, Same P1 P ∧ Rel C F ρ P σ H ∧ HoldS C F W P (forL bnd body (xs.drop (i + 1)) ρ) D, fun σ' H' p' => ⟨xs.length - (i + 1), by omega, rfl, hlt, p'⟩, fun xv H' y => ?_⟩
    obtain ⟨P3, g, rx⟩ := hy xv H' y P2 s2 R2.sub
    obtain ⟨s3, R3⟩ := g.rel R2
    refine ⟨F, ρ2, P3, x, R3, rx, ?_⟩
    unfold forL at q2
    cases eb : bnd x ρ2 with
    | exc c ρ' => rw [eb] at q2; exact q2.elim
    | stuck => rw [eb] at q2; exact q2.elim
    | ok u ρ3 =>
      rw [eb] at q2
      dsimp only at q2
      intro σ2 off R4
      refine ⟨F, ρ3, P3, R4, ?_⟩
      cases ebd : body ρ3 with
      | nx ρ4 => rw [ebd] at q2; exact fun P5 H5 σ5 s5 R5 => ⟨ρ4, P5, (s2.trans s3).trans s5, R5, q2.up (s3.trans s5)⟩
      | ct ρ4 => rw [ebd] at q2; exact fun P5 H5 σ5 s5 R5 => ⟨ρ4, P5, (s2.trans s3).trans s5, R5, q2.up (s3.trans s5)⟩
      | bk ρ4 => rw [ebd] at q2; exact fun P5 H5 σ5 s5 R5 => q2 P5 H5 σ5 (s3.trans s5) R5
      | rt r ρ4 => rw [ebd] at q2; exact fun P5 H5 σ5 v s5 R5 rr => q2 P5 H5 σ5 v (s3.trans s5) R5 rr
      | exc c ρ4 => rw [ebd] at q2; exact fun P5 H5 σ5 s5 R5 => q2 P5 H5 σ5 (s3.trans s5) R5
      | stuck => rw [ebd] at q2; exact q2.elim
  · have e : i = xs.length := by omega
    subst e
    rw [List.drop_length] at q2
    exact .inl ⟨(it _ H (s2.trans R2.sub)).1 (Nat.le_refl _), q2 P2 H σ (Same.refl _) R2⟩
theorem sndS_for {tg iter : PySem.Expr} {body : List Stmt} {src : M (List D)} {vs : List Nat} {bnd : D → M Unit} {mbd : SM} (hp : PassesOwn (model X.prog X.w) X.A X.env X.xe) (hc : X.calm = true) (hi : SndI C X tg iter src) (hg : SndG C X tg vs bnd) (hb : SndSs C X body mbd)
    (hs : ∀ x, foldedSetIterable iter X.env x = pure x) : SndS C X (.For tg iter body [] pos) (mFor src bnd mbd) := fun W tk => (ps_for hp hc (hi W tk) hg (hb W tk) hs).imp fun D σ H h => for_reading h
def wL (c : M Bool) (body : SM) : Nat → SM
  | 0 => fun _ => .stuck
  | n + 1 => fun ρ => match c ρ with
    | .ok true ρ1 => (match body ρ1 with
      | .nx ρ2 => wL c body n ρ2
      | .ct ρ2 => wL c body n ρ2
      | .bk ρ2 => .nx ρ2
      | r => r)
    | .ok false ρ1 => .nx ρ1
    | .exc k ρ1 => .exc k ρ1
    | .stuck => .stuck
theorem while_reading {c : M Bool} {body : SM} {n : Nat} {D : Ends} (h : rdS C W (wL c body n) D σ H) : tWhile (rdT C W c) (rdS C W body) D σ H := by
  obtain ⟨F, ρ, P, R, q⟩ := h
  refine ⟨fun m σ H => ∃ ρ P, Rel C F ρ P σ H ∧ HoldS C F W P (wL c body m ρ) D, ⟨n, ρ, P, R, q⟩, ?_⟩
  rintro m σ H ⟨ρ1, P1, R1, q1⟩
  cases m with
  | zero => exact q1.elim
  | succ m =>
    refine ⟨F, ρ1, P1, R1, ?_⟩
    unfold wL at q1
    cases ec : c ρ1 with
    | exc k ρ2 => rw [ec] at q1; exact fun P2 H2 s2 R2 => q1 P2 H2 σ s2 R2
    | stuck => rw [ec] at q1; exact q1.elim
    | ok bb ρ2 =>
      rw [ec] at q1
      rintro P2 H2 b2 s2 R2 rfl
      cases bb with
      | false => rw [if_neg Bool.false_ne_true]; exact q1 P2 H2 σ s2 R2
      | true =>
        rw [if_pos rfl]
        dsimp only at q1
        refine ⟨fun σ H => ∃ ρ P, Rel C F ρ P σ H ∧ HoldS C F W P (wL c body m ρ) D, fun σ' H' p' => ⟨m, Nat.lt_succ_self _, p'⟩, F, ρ2, P2, R2, ?_⟩
        cases ebd : body ρ2 with
        | nx ρ4 => rw [ebd] at q1; exact fun P5 H5 σ5 s5 R5 => ⟨ρ4, P5, R5, q1.up (s2.trans s5)⟩
        | ct ρ4 => rw [ebd] at q1; exact fun P5 H5 σ5 s5 R5 => ⟨ρ4, P5, R5, q1.up (s2.trans s5)⟩
        | bk ρ4 => rw [ebd] at q1; exact fun P5 H5 σ5 s5 R5 => q1 P5 H5 σ5 (s2.trans s5) R5
        | rt r ρ4 => rw [ebd] at q1; exact fun P5 H5 σ5 v s5 R5 rr => q1 P5 H5 σ5 v (s2.trans s5) R5 rr
        | exc c ρ4 => rw [ebd] at q1; exact fun P5 H5 σ5 s5 R5 => q1 P5 H5 σ5 (s2.trans s5) R5
        | stuck => rw [ebd] at q1; exact q1.elim
theorem sndS_while {body : List Stmt} {t : M Bool} {mbd : SM} (n : Nat) (hp : PassesOwn (model X.prog X.w) X.A X.env X.xe) (hc : SndT C X c t) (hb : SndSs C X body mbd) : SndS C X (.While c body [] pos) (wL t mbd n) :=
  fun W tk => (ps_while hp (hc W tk) (hb W tk)).imp fun D σ H h => while_reading h
/-! ### a field of the object that is made -/
def setF (i c j : Nat) (x : D) (ρ : En) : Option Sl → SRes
  | some (.cns c' fs) => if c' = c ∧ j < fs.length then .nx (ρ.set i (.cns c (fs.set j (some x)))) else .stuck
  | _ => .stuck
def mSetF (i c j : Nat) (m : M Hd) : SM := M.bindS m fun h => M.bindS (frz h) fun x => fun ρ => setF i c j x ρ ρ[i]?
theorem sndS_fld {o value : PySem.Expr} {i c j : Nat} {f : Str} {q : Addr} {pos' : Pos} (sc : SlX.SCls X.K (C.cls c)) (sl : SlX.Slot1 X.K (C.cls c) f q j) (ho : PE X o (tVar i)) (hv : SndH C X value ma) (hs : swapsWith value (some (.Attribute o f pos')) pos.line X.env = pure false) :
    SndS C X (.Assign [.Attribute o f pos'] value pos) (mSetF i c j ma) := fun W tk => (SlX.ps_sl ho (hv W tk) hs).imp fun D σ H ⟨F, ρ, P, R, qq⟩ => by
  refine ⟨F, ρ, P, R, (HoldS.bind (R1 := RH C σ) qq).imp ?_⟩
  rintro v H1 ⟨hh, ρ1, P1, s1, R1, r1, q1⟩
  obtain ⟨x, ρ2, P2, s2, R2, r2, q2⟩ := HoldS.frz R1 r1 q1
  have q3 : HoldS C F W P2 (setF i c j x ρ2 ρ2[i]?) D := q2
  clear q2
  cases e : ρ2[i]? with
  | none => rw [e] at q3; exact q3.elim
  | some s =>
    rw [e] at q3
    cases s with
    | cns c' fs =>
      have q3 : HoldS C F W P2 (if c' = c ∧ j < fs.length then .nx (ρ2.set i (.cns c (fs.set j (some x)))) else .stuck) D := q3
      by_cases hc : c' = c ∧ j < fs.length
      · rw [if_pos hc] at q3
        obtain ⟨hc1, hj⟩ := hc
        subst hc1
        obtain ⟨_, a', dx, vs, h1, h2, h3, h4, h5, h6⟩ := R2.cns i c' fs e
        exact ⟨_, h1, a', _, dx, q, vs, j, rfl, h5, sc, sl, q3 P2 _ σ (Same.refl _) (R2.setFld e h1 h5 h3 h6 hj r2)⟩
      · rw [if_neg hc] at q3; exact q3.elim
    | _ => exact q3.elim
end
end VL

set_option Elab.async false
set_option linter.all false
set_option maxRecDepth 100000
set_option maxHeartbeats 4000000
/-! VL8: try, defs. -/
namespace VL
open PySem PySem.Spec L2

/-- exception classes by number: 0 is the base of all -/
def isSub (c k : Nat) : Bool := c == k || k == 0
def noX : SRes → SRes
  | .exc _ _ => .stuck
  | r => r
def handle (ks : List Nat) : List (Nat × SM) → Nat → SM
  | [], c => fun ρ => .exc c ρ
  | (k, m) :: r, c => fun ρ => if ks.contains c = true then (if isSub c k = true then noX (m ρ) else handle ks r c ρ) else .stuck
def mTry (ks : List Nat) (body : SM) (hds : List (Nat × SM)) : SM := fun ρ => match body ρ with
  | .exc c ρ' => handle ks hds c ρ'
  | r => r
section
variable {C : Kx} {F : Fc} {X : Cx} {ρ : En} {σ : L2.St} {P H P' H' : Hp} {W : WX} {pos : Pos}
inductive HdsV (C : Kx) (X : Cx) : List ExceptHandler → List (Nat × SM) → List (Value × (Addr → Value → Option Addr → TS)) → Prop
  | nil : HdsV C X [] [] []
  | cons {x : Str} {k : Nat} {m : SM} {b₀ : Stmt} {suite : List Stmt} {np pos' : Pos} {hds : List ExceptHandler} {ms : List (Nat × SM)} {l : List (Value × (Addr → Value → Option Addr → TS))} (hc : Names X x (.ref (C.cls k)))
      (hsu : ∀ (a : Addr) (pn : List (Addr × Obj)), SndSs C (X.suite a pn) (b₀ :: suite) m) (r : HdsV C X hds ms l) :
      HdsV C X (.ExceptHandler (some (.Name x np)) none (b₀ :: suite) pos' :: hds) ((k, m) :: ms) ((.ref (C.cls k), fun _ _ _ => rdS C Wf m) :: l)
theorem HdsV.ok {hds : List ExceptHandler} {ms : List (Nat × SM)} {l : List (Value × (Addr → Value → Option Addr → TS))} (h : HdsV C X hds ms l) : HdsOk X hds l := by
  induction h with
  | nil => exact .nil
  | cons hc hsu r ih => exact .cons hc (fun a oe cls d pn _ _ => hsu a _ Wf takes0) ih
theorem HdsV.wish {ks : List Nat} {D : Ends} {c : Nat} (hs : ∀ c ∈ ks, ∀ k ∈ ks, PySem.W.exmOne X.K (.ref (C.cls c)) (.ref (C.cls k)) = some (isSub c k)) {hds : List ExceptHandler} {ms : List (Nat × SM)} {l : List (Value × (Addr → Value → Option Addr → TS))} (h : HdsV C X hds ms l)
    (hk : ∀ p ∈ ms, p.1 ∈ ks) (R : Rel C F ρ P σ H) (q : HoldS C F W P (handle ks ms c ρ) D) : wMany X.K W D l (.ref (C.cls c)) none σ H := by
  induction h with
  | nil => exact q P H σ (Same.refl _) R
  | @cons x k m b₀ suite np pos' hds ms l hc hsu r ih =>
    unfold handle at q
    by_cases hcs : ks.contains c = true
    · rw [if_pos hcs] at q
      have hcm : c ∈ ks := by simpa using hcs
      have hkm : k ∈ ks := hk (k, m) (List.mem_cons_self ..)
      refine ⟨isSub c k, hs c hcm k hkm, fun e a _ => ?_, fun e => ?_⟩
      · rw [if_pos e] at q
        refine ⟨F, ρ, P, R, ?_⟩
        cases em : m ρ with
        | exc c' ρ' => rw [em] at q; exact q.elim
        | nx ρ' => rw [em] at q; exact q
        | rt r ρ' => rw [em] at q; exact q
        | bk ρ' => rw [em] at q; exact q
        | ct ρ' => rw [em] at q; exact q
        | stuck => rw [em] at q; exact q
      · rw [if_neg (by rw [e]; decide)] at q
        exact ih (fun p hp => hk p (List.mem_cons_of_mem _ hp)) q
    · rw [if_neg hcs] at q; exact q.elim
theorem sndS_try {body : List Stmt} {h₀ : ExceptHandler} {hds : List ExceptHandler} {ks : List Nat} {mb : SM} {ms : List (Nat × SM)} {l : List (Value × (Addr → Value → Option Addr → TS))} (hst : X.stack = X.env :: X.outer) (hf : X.env.frame = some X.env.locals)
    (hb : ∀ (pn : List (Addr × Obj)) (xe : Value → Shared → Prop), PassesOwn (model X.prog X.w) X.A X.env xe → SndSs C (X.tr pn xe) body mb) (hh : HdsV C X (h₀ :: hds) ms l)
    (hs : ∀ c ∈ ks, ∀ k ∈ ks, PySem.W.exmOne X.K (.ref (C.cls c)) (.ref (C.cls k)) = some (isSub c k)) (hk : ∀ p ∈ ms, p.1 ∈ ks) : SndS C X (.Try body (h₀ :: hds) [] [] pos) (mTry ks mb ms) := fun W tk =>
  (ps_try_many (tb := fun W => rdS C W mb) hst hf tk (fun W pn xe t p => hb pn xe p W t) hh.ok).imp fun D σ H ⟨F, ρ, P, R, q⟩ => by
    refine ⟨F, ρ, P, R, ?_⟩
    unfold mTry at q
    cases e : mb ρ with
    | exc c ρ' => rw [e] at q; exact fun P' H' σ' s R' => hh.wish hs hk R' (q.up s)
    | nx ρ' => rw [e] at q; exact q
    | rt r ρ' => rw [e] at q; exact q
    | bk ρ' => rw [e] at q; exact q
    | ct ρ' => rw [e] at q; exact q
    | stuck => rw [e] at q; exact q
end
/-! ### defs -/
def slot0 : Option Spc → En
  | none => []
  | some (.io xs) => [.arg xs]
  | some (.cns c fs) => [.cns c fs]
def initE (np nN : Nat) (s : Option Spc) (as : List D) : En := slot0 s ++ (as.map Sl.d ++ List.replicate (nN - np) .un)
def spcOut : Option Spc → Option Sl → Option (Option Spc)
  | none, _ => some none
  | some (.io _), some (.arg ys) => some (some (.io ys))
  | some (.cns _ _), some (.cns c fs) => some (some (.cns c fs))
  | _, _ => none
def finOk (s : Option Spc) (r : RV) (ρ : En) : FRes := match spcOut s ρ[0]? with
  | some s' => .ok r s'
  | none => .stuck
def finD (s : Option Spc) : SRes → FRes
  | .nx ρ => finOk s (.d .non) ρ
  | .rt r ρ => finOk s r ρ
  | .exc c ρ => (match spcOut s ρ[0]? with
    | some s' => .exc c s'
    | none => .stuck)
  | _ => .stuck
def dDef (np nN : Nat) (mb : SM) : Fn := fun s as => if (slot0 s).length + as.length = np ∧ np ≤ nN then finD s (mb (initE np nN s as)) else .stuck
section
variable {C : Kx} {P H : Hp}
theorem Args.lens {s : Option Spc} {as : List D} {vs : List V} {ad dx : Option Addr} (h : Args C P H s as vs ad dx) : vs.length = (slot0 s).length + as.length := by
  cases h with
  | plain r => rw [r.length]; simp [slot0]
  | io _ _ _ _ r => rw [r.length]; simp [slot0]; omega
  | cns _ _ _ _ _ _ r => rw [r.length]; simp [slot0]; omega
theorem init_get {np nN : Nat} {s : Option Spc} {as : List D} {i : Nat} {t : Sl} (h : (initE np nN s as)[i]? = some t) (ht : t ≠ .un) : (i = 0 ∧ slot0 s = [t]) ∨ ∃ j x, i = (slot0 s).length + j ∧ as[j]? = some x ∧ t = .d x := by
  unfold initE at h
  by_cases hi : i < (slot0 s).length
  · rw [List.getElem?_append_left hi] at h
    cases s with
    | none => simp [slot0] at hi
    | some s =>
      cases s with
      | io xs =>
        have : i = 0 := by simp [slot0] at hi; exact hi
        subst this
        simp [slot0] at h
        exact .inl ⟨rfl, by rw [← h]; rfl⟩
      | cns c fs =>
        have : i = 0 := by simp [slot0] at hi; exact hi
        subst this
        simp [slot0] at h
        exact .inl ⟨rfl, by rw [← h]; rfl⟩
  · rw [List.getElem?_append_right (by omega)] at h
    by_cases hj : i - (slot0 s).length < (as.map Sl.d).length
    · rw [List.getElem?_append_left hj, List.getElem?_map] at h
      cases e : as[i - (slot0 s).length]? with
      | none => rw [e] at h; cases h
      | some x =>
        rw [e] at h
        exact .inr ⟨i - (slot0 s).length, x, by omega, e, (Option.some.inj h).symm⟩
    · rw [List.getElem?_append_right (by omega), List.getElem?_replicate] at h
      split at h
      · exact (ht (Option.some.inj h).symm).elim
      · cases h
theorem start_get {N : List Str} {vs : List V} {i : Nat} {v : V} (h : vs[i]? = some v) : (L2.start N vs)[i]? = some (some v) := by
  unfold L2.start
  rw [List.getElem?_append_left (by simpa using get_lt h), List.getElem?_map, h]
  rfl
theorem start_length {N : List Str} {vs : List V} (h : vs.length ≤ N.length) : (L2.start N vs).length = N.length := by
  unfold L2.start
  simp
  omega
/-- the state at a def's entry -/
theorem Args.rel {s : Option Spc} {as : List D} {vs : List V} {ad dx : Option Addr} {N : List Str} {np : Nat} (h : Args C P H s as vs ad dx) (sP : Same P H) (hl : (slot0 s).length + as.length = np) (hN : np ≤ N.length) :
    Rel C ⟨H, P, ad, dx⟩ (initE np N.length s as) P (L2.start N vs) H := by
  have hvl := h.lens
  refine ⟨?_, sP, fun a ha => ?_, fun a o q _ => q, fun a q => q, fun a o q => .inl q, fun i x q => ?_, fun i xs q => ?_, fun i xs q => ?_, fun i c fs q => ?_, fun i j a xs ys q1 q2 q3 q4 => ?_⟩
  · rw [start_length (by omega)]
    unfold initE
    simp
    omega
  · cases h with
    | plain _ => rcases ha with z | z <;> cases z
    | io h1 h2 h3 h4 _ =>
      rcases ha with z | z
      · cases z; exact ⟨h4, fun z => by rw [show H a = none from z] at h1; cases h1⟩
      · cases z
    | cns h1 h2 h3 h4 h5 h6 _ =>
      rcases ha with z | z
      · cases z
        refine ⟨h4, fun z => ?_⟩
        rcases h2 with ⟨k, _⟩ | ⟨k, _⟩
        · rw [show H a = none from z] at k; cases k
        · rw [show H a = none from z] at k; cases k
      · cases z; exact ⟨h5, h6⟩
  · rcases init_get q (by intro z; cases z) with ⟨_, z⟩ | ⟨j, y, rfl, e, z⟩
    · cases s with
      | none => cases z
      | some s => cases s <;> cases z
    · cases z
      cases h with
      | plain r =>
        obtain ⟨v, k1, k2⟩ := r.get' e
        exact ⟨v, start_get (by simpa [slot0] using k1), k2⟩
      | io _ _ _ _ r =>
        obtain ⟨v, k1, k2⟩ := r.get' e
        exact ⟨v, start_get (by rw [show (slot0 (some (Spc.io _))).length + j = j + 1 by simp [slot0]; omega]; simpa using k1), k2⟩
      | cns _ _ _ _ _ _ r =>
        obtain ⟨v, k1, k2⟩ := r.get' e
        exact ⟨v, start_get (by rw [show (slot0 (some (Spc.cns _ _))).length + j = j + 1 by simp [slot0]; omega]; simpa using k1), k2⟩
  · rcases init_get q (by intro z; cases z) with ⟨_, z⟩ | ⟨j, y, _, e, z⟩
    · cases s with
      | none => cases z
      | some s => cases s <;> cases z
    · cases z
  · rcases init_get q (by intro z; cases z) with ⟨h0, z⟩ | ⟨j, y, _, e, z⟩
    · subst h0
      cases h with
      | plain _ => cases z
      | cns _ _ _ _ _ _ _ => cases z
      | io h1 h2 h3 h4 r =>
        cases z
        exact ⟨rfl, _, _, start_get (by rfl), rfl, h1, h2, h3⟩
    · cases z
  · rcases init_get q (by intro z; cases z) with ⟨h0, z⟩ | ⟨j, y, _, e, z⟩
    · subst h0
      cases h with
      | plain _ => cases z
      | io _ _ _ _ _ => cases z
      | cns h1 h2 h3 h4 h5 h6 r =>
        cases z
        exact ⟨rfl, _, _, _, start_get (by rfl), rfl, rfl, h1, h2, h3⟩
    · cases z
  · rcases init_get q1 (by intro z; cases z) with ⟨_, z⟩ | ⟨j, y, _, e, z⟩
    · cases s with
      | none => cases z
      | some s => cases s <;> cases z
    · cases z
theorem Rel.post {ad dx : Option Addr} {ρ : En} {P' H' : Hp} {σ : L2.St} (R : Rel C ⟨H, P, ad, dx⟩ ρ P' σ H') (s : Same P P') : Post P H P' H' ad dx :=
  ⟨s, R.sub, fun b o e hx => R.frame b o e hx, fun b e => R.there b e, fun b o e => R.old b o e, fun b hb => (R.nex b hb).1⟩
theorem Rel.spc {ad dx : Option Addr} {ρ : En} {P' H' : Hp} {σ : L2.St} {s : Option Spc} {s' : Option Spc} (R : Rel C ⟨H, P, ad, dx⟩ ρ P' σ H') (e : spcOut s ρ[0]? = some s') : SpcOk C P' H' ad dx s' := by
  cases s with
  | none => cases e; trivial
  | some s =>
    cases s with
    | io xs =>
      cases e0 : ρ[0]? with
      | none => rw [e0] at e; cases e
      | some t =>
        rw [e0] at e
        cases t with
        | arg ys =>
          cases e
          obtain ⟨_, a, us, h1, h2, h3, h4, h5⟩ := R.arg 0 ys e0
          exact ⟨a, us, h2, h3, h4, h5⟩
        | _ => cases e
    | cns c fs =>
      cases e0 : ρ[0]? with
      | none => rw [e0] at e; cases e
      | some t =>
        rw [e0] at e
        cases t with
        | cns c' fs' =>
          cases e
          obtain ⟨_, a, d, us, h1, h2, h3, h4, h5, h6⟩ := R.cns 0 c' fs' e0
          exact ⟨a, d, us, h2, h3, h4, h5, h6⟩
        | _ => cases e
/-- THE RULE for a def: its body has a meaning, so it keeps the promise of that meaning -/
theorem fn_def {Pg : Program} {w : World} {K : PySem.W.Frag} {mg : Str → Option Value} {base : Heap} {x qual : Str} {params : Arguments} {body : List Stmt} {scope : Scope} {dvs : List V} {kws : List (Str × V)} {f : Addr} {fd : FuncData}
    {N ps : List Str} {k : Nat} {mb : SM} (Fd : FunD K x qual params body scope dvs kws f fd) (S : FnScope N ps scope)
    (hb : ∀ (cdv : Value) (A : Around) (outer : List PySem.Env) (s : Shared) (H : Hp) (E : XK), Room k (A.deeper (PyProof.Rows.envOfC qual scope s.heap.objs.size f cdv)) → SndSs C (cxOf (L2.CX Pg w) Pg w K mg base N qual scope f cdv A outer s H E) body mb) :
    FnOk Pg w K mg base (L2.CX Pg w) (k + 1) f fd ps (SpOf C (dDef ps.length N.length mb)) := by
  refine Fd.ok S (fun vs H Q E h => ?_) (fun cdv A outer s H vs Q E hr h => ?_)
  · obtain ⟨sp, as, P, ad, dx, sP, ha, hc⟩ := h
    rw [ha.lens]
    unfold dDef at hc
    by_cases hl : (slot0 sp).length + as.length = ps.length ∧ ps.length ≤ N.length
    · exact hl.1
    · rw [if_neg hl] at hc; exact hc.elim
  · obtain ⟨sp, as, P, ad, dx, sP, ha, hc⟩ := h
    unfold dDef at hc
    by_cases hl : (slot0 sp).length + as.length = ps.length ∧ ps.length ≤ N.length
    · rw [if_pos hl] at hc
      refine ⟨_, hb cdv A outer s H E hr (fun cls d _ H => E cls d H) (takes_of rfl rfl rfl rfl), ⟨H, P, ad, dx⟩, initE ps.length N.length sp as, P, ha.rel sP hl.1 hl.2, ?_⟩
      have ret : ∀ {r : RV} {ρ : En} {P' H' : Hp} {σ' : L2.St} {v : V}, CallEnd C P H ad dx Q E (finOk sp r ρ) → Same P P' → Rel C ⟨H, P, ad, dx⟩ ρ P' σ' H' → RR C ⟨H, P, ad, dx⟩ σ' r v ρ P' H' → Q v H' := fun {r ρ P' H' σ' v} hc s R rr => by
        unfold finOk at hc
        cases e : spcOut sp ρ[0]? with
        | none => rw [e] at hc; exact hc.elim
        | some s' =>
          rw [e] at hc
          refine hc P' H' v (R.post s) (R.spc e) ?_
          cases r with
          | d x => exact rr
          | fr xs =>
            obtain ⟨a, us, e1, h1, h2, h3, h4, h5, _⟩ := rr
            exact ⟨a, us, e1, h1, h2, h3, h4, h5⟩
      cases em : mb (initE ps.length N.length sp as) with
      | nx ρ => rw [em] at hc; exact fun P' H' σ' s R => ret hc s R (show Rep C P' .non .non from Rep.ofNon)
      | rt r ρ => rw [em] at hc; exact fun P' H' σ' v s R rr => ret hc s R rr
      | bk ρ => rw [em] at hc; exact hc.elim
      | ct ρ => rw [em] at hc; exact hc.elim
      | stuck => rw [em] at hc; exact hc.elim
      | exc c ρ =>
        rw [em] at hc
        intro P' H' σ' s R
        have hc : CallEnd C P H ad dx Q E (match spcOut sp ρ[0]? with | some s' => .exc c s' | none => .stuck) := hc
        cases e : spcOut sp ρ[0]? with
        | none => rw [e] at hc; exact hc.elim
        | some s' => rw [e] at hc; exact hc P' H' (R.post s) (R.spc e)
    · rw [if_neg hl] at hc; exact hc.elim
end
end VL

set_option Elab.async false
set_option linter.all false
set_option maxRecDepth 100000
set_option maxHeartbeats 4000000
/-! VL9: operations on values. -/
namespace VL
open PySem PySem.Spec L2
section
variable {C : Kx} {X : Cx}
theorem Grow.refl {P H : Hp} : Grow P H P H := .inl ⟨rfl, rfl⟩
/-! ### intL -/
def f2i (c : Int → Int → Bool) (g : Int → Int → D) : D → D → Option D
  | .int i, .int j => if c i j = true then some (g i j) else none
  | _, _ => none
theorem op2_i {r : R2} {c : Int → Int → Bool} {g : Int → Int → D} {gv : Int → Int → V} (hg : ∀ i j (P : Hp), Rep C P (g i j) (gv i j)) (h : ∀ i j H Q, c i j = true → Q (gv i j) H → r (.int i) (.int j) H Q) : Op2 C r (f2i c g) := fun P H x y z v u Q s bx b_y e q => by
  cases x with
  | int i =>
    cases y with
    | int j =>
      have bx : Rep C P (.int i) v := bx
      have b_y : Rep C P (.int j) u := b_y
      rw [bx.int, b_y.int]
      have e : (if c i j = true then some (g i j) else none) = some z := e
      by_cases hc : c i j = true
      · rw [if_pos hc] at e
        cases e
        exact h i j H Q hc (q P H _ Grow.refl (hg i j P))
      · rw [if_neg hc] at e; cases e
    | _ => cases e
  | _ => cases e
def okc (_ _ : Int) : Bool := true
abbrev fSub : D → D → Option D := f2i okc fun i j => .int (i - j)
abbrev fLt : D → D → Option D := f2i okc fun i j => .bl (decide (i < j))
abbrev fLe : D → D → Option D := f2i okc fun i j => .bl (decide (i ≤ j))
abbrev fGt : D → D → Option D := f2i okc fun i j => .bl (decide (j < i))
abbrev fGe : D → D → Option D := f2i okc fun i j => .bl (decide (j ≤ i))
def cMul (i j : Int) : Bool := decide (i.natAbs < 2 ^ 64) || decide (j.natAbs < 2 ^ 64) || (decide (i.natAbs < 2 ^ 8192) && decide (j.natAbs < 2 ^ 8192))
abbrev fMul : D → D → Option D := f2i cMul fun i j => .int (i * j)
def cDiv (i j : Int) : Bool := decide (0 < j) && decide (j < 2 ^ 8192)
abbrev fDiv : D → D → Option D := f2i cDiv fun i j => .int (i / j)
def cMod (_ j : Int) : Bool := decide (0 < j)
abbrev fMod : D → D → Option D := f2i cMod fun i j => .int (i % j)
def cPow (i j : Int) : Bool := decide (0 ≤ j) && decide (j ≤ 1000000) && decide (i.natAbs < 2 ^ 64)
abbrev fPow : D → D → Option D := f2i cPow fun i j => .int (i ^ j.toNat)
def cShl (i j : Int) : Bool := decide (0 ≤ j) && decide (j ≤ 1000000) && decide (i.natAbs < 2 ^ 64)
abbrev fShl : D → D → Option D := f2i cShl fun i j => .int (i * 2 ^ j.toNat)
theorem o_sub : Op2 C (rI0 fun i j => .int (i - j)) fSub := op2_i (fun _ _ _ => Rep.ofInt) fun i j H Q _ q => ⟨i, j, rfl, rfl, q⟩
theorem o_lt : Op2 C (rI0 fun i j => .bl (decide (i < j))) fLt := op2_i (fun _ _ _ => Rep.ofBl) fun i j H Q _ q => ⟨i, j, rfl, rfl, q⟩
theorem o_le : Op2 C (rI0 fun i j => .bl (decide (i ≤ j))) fLe := op2_i (fun _ _ _ => Rep.ofBl) fun i j H Q _ q => ⟨i, j, rfl, rfl, q⟩
theorem o_gt : Op2 C (rI0 fun i j => .bl (decide (j < i))) fGt := op2_i (fun _ _ _ => Rep.ofBl) fun i j H Q _ q => ⟨i, j, rfl, rfl, q⟩
theorem o_ge : Op2 C (rI0 fun i j => .bl (decide (j ≤ i))) fGe := op2_i (fun _ _ _ => Rep.ofBl) fun i j H Q _ q => ⟨i, j, rfl, rfl, q⟩
abbrev rMulB : R2 := fun x y H Q => rI CMul (fun i j => .int (i * j)) x y H Q ∨ rI CMulW (fun i j => .int (i * j)) x y H Q
theorem h_mul : OpR X (binaryOp .Mult) rMulB := op_mul.or op_mulW
theorem natAbs_lt {i : Int} {n : Nat} (h : i.natAbs < n) : -(n : Int) < i ∧ i < n := by omega
theorem o_mul : Op2 C rMulB fMul := op2_i (fun _ _ _ => Rep.ofInt) fun i j H Q hc q => by
  unfold cMul at hc
  rw [Bool.or_eq_true, Bool.or_eq_true, Bool.and_eq_true] at hc
  rcases hc with (h | h) | ⟨h1, h2⟩
  · exact .inl ⟨i, j, rfl, rfl, .inl (by have := natAbs_lt (of_decide_eq_true h); simpa using this), q⟩
  · exact .inl ⟨i, j, rfl, rfl, .inr (by have := natAbs_lt (of_decide_eq_true h); simpa using this), q⟩
  · exact .inr ⟨i, j, rfl, rfl, wide_mul (of_decide_eq_true h1) (of_decide_eq_true h2) (by omega) (by omega) (by omega), q⟩
theorem o_div : Op2 C (rI CDivW fun i j => .int (i / j)) fDiv := op2_i (fun _ _ _ => Rep.ofInt) fun i j H Q hc q => by
  obtain ⟨h1, h2⟩ := Bool.and_eq_true_iff.mp hc
  have h1 := of_decide_eq_true h1
  have h2 := of_decide_eq_true h2
  refine ⟨i, j, rfl, rfl, ⟨h1, ?_⟩, q⟩
  have : j.natAbs < 2 ^ 8192 := by
    have : ((2 ^ 8192 : Nat) : Int) = (2 : Int) ^ 8192 := by rw [Int.natCast_pow]; rfl
    omega
  exact Nat.lt_of_lt_of_le (PySem.Flt.log2_lt_of (by omega) this) (by omega)
theorem o_mod : Op2 C (rI (fun _ j => 0 < j) fun i j => .int (i % j)) fMod := op2_i (fun _ _ _ => Rep.ofInt) fun i j H Q hc q => ⟨i, j, rfl, rfl, of_decide_eq_true hc, q⟩
theorem o_pow : Op2 C (rI CPow fun i j => .int (i ^ j.toNat)) fPow := op2_i (fun _ _ _ => Rep.ofInt) fun i j H Q hc q => by
  obtain ⟨h1, h3⟩ := Bool.and_eq_true_iff.mp hc
  obtain ⟨h1, h2⟩ := Bool.and_eq_true_iff.mp h1
  exact ⟨i, j, rfl, rfl, ⟨of_decide_eq_true h1, of_decide_eq_true h2, of_decide_eq_true h3⟩, q⟩
theorem o_shl : Op2 C (rI CPow fun i j => .int (i * 2 ^ j.toNat)) fShl := op2_i (fun _ _ _ => Rep.ofInt) fun i j H Q hc q => by
  obtain ⟨h1, h3⟩ := Bool.and_eq_true_iff.mp hc
  obtain ⟨h1, h2⟩ := Bool.and_eq_true_iff.mp h1
  exact ⟨i, j, rfl, rfl, ⟨of_decide_eq_true h1, of_decide_eq_true h2, of_decide_eq_true h3⟩, q⟩
/-! ### + : intL, texts -/
def fAdd : D → D → Option D
  | .int i, .int j => some (.int (i + j))
  | .str x, .str y => if x.length + y.length ≤ 16777216 then some (.str (x ++ y)) else none
  | _, _ => none
abbrev rAddB : R2 := fun x y H Q => rI0 (fun i j => .int (i + j)) x y H Q ∨ ∃ i j, x = .str i ∧ y = .str j ∧ i.length + j.length ≤ sizeLine ∧ Q (.str (i ++ j)) H
theorem h_add : OpR X (binaryOp .Add) rAddB := op_add.or op_add_str
theorem o_add : Op2 C rAddB fAdd := fun P H x y z v u Q s bx b_y e q => by
  cases x with
  | int i =>
    cases y with
    | int j =>
      have bx : Rep C P (.int i) v := bx
      have b_y : Rep C P (.int j) u := b_y
      rw [bx.int, b_y.int]
      cases e
      exact .inl ⟨i, j, rfl, rfl, q P H _ Grow.refl Rep.ofInt⟩
    | _ => cases e
  | str i =>
    cases y with
    | str j =>
      have bx : Rep C P (.str i) v := bx
      have b_y : Rep C P (.str j) u := b_y
      rw [bx.str, b_y.str]
      have e : (if i.length + j.length ≤ 16777216 then some (D.str (i ++ j)) else none) = some z := e
      by_cases hc : i.length + j.length ≤ 16777216
      · rw [if_pos hc] at e
        cases e
        exact .inr ⟨i, j, rfl, rfl, by rw [sizeLine_eq]; exact hc, q P H _ Grow.refl Rep.ofStr⟩
      · rw [if_neg hc] at e; cases e
    | _ => cases e
  | _ => cases e
/-! ### == of data -/
mutual
def toPy : D → Option PyData
  | .non => some .none
  | .bl b => some (.bool b)
  | .int i => some (.int i)
  | .str x => some (.str x)
  | .tup xs => (toPys xs).map .tuple
  | .lst xs => (toPys xs).map .list
  | .ro xs => (toPys xs).map .list
  | .obj _ _ => none
  | .cl _ => none
def toPys : List D → Option (List PyData)
  | [] => some []
  | x :: xs => (toPy x).bind fun d => (toPys xs).map (d :: ·)
end
mutual
theorem toPy_ok {H : Hp} : ∀ {x : D} {p : PyData} {v : V}, toPy x = some p → Rep C H x v → Dp C.K H v p
  | .non, p, v, e, h => by rw [toPy] at e; cases e; rw [h.non]; exact .non
  | .bl b, p, v, e, h => by rw [toPy] at e; cases e; rw [h.bl]; exact .bl b
  | .int i, p, v, e, h => by rw [toPy] at e; cases e; rw [h.int]; exact .int i
  | .str x, p, v, e, h => by rw [toPy] at e; cases e; rw [h.str]; exact .str x
  | .tup xs, p, v, e, h => by
    rw [toPy] at e
    rw [Rep] at h
    obtain ⟨a, vs, rfl, h1, h2, h3⟩ := h
    cases q : toPys xs with
    | none => rw [q] at e; cases e
    | some ps => rw [q] at e; cases e; exact .tup h1 (toPys_ok q h3)
  | .lst xs, p, v, e, h => by
    rw [toPy] at e
    rw [Rep] at h
    obtain ⟨a, vs, rfl, h1, h2, h3⟩ := h
    cases q : toPys xs with
    | none => rw [q] at e; cases e
    | some ps => rw [q] at e; cases e; exact .lst (SqL.of h1) (toPys_ok q h3)
  | .ro xs, p, v, e, h => by
    rw [toPy] at e
    rw [Rep] at h
    obtain ⟨a, vs, rfl, h1, h2, h3⟩ := h
    cases q : toPys xs with
    | none => rw [q] at e; cases e
    | some ps => rw [q] at e; cases e; exact .lst h1 (toPys_ok q h3)
  | .obj _ _, p, v, e, h => by rw [toPy] at e; cases e
  | .cl _, p, v, e, h => by rw [toPy] at e; cases e
theorem toPys_ok {H : Hp} : ∀ {xs : List D} {ps : List PyData} {vs : List V}, toPys xs = some ps → Reps C H xs vs → DpAll C.K H vs ps
  | [], ps, vs, e, h => by rw [toPys] at e; cases e; rw [Reps] at h; subst h; exact .nil
  | x :: xs, ps, vs, e, h => by
    rw [toPys] at e
    rw [Reps] at h
    obtain ⟨v, r, rfl, h1, h2⟩ := h
    cases q1 : toPy x with
    | none => rw [q1] at e; cases e
    | some d =>
      rw [q1] at e
      cases q2 : toPys xs with
      | none => rw [q2] at e; cases e
      | some ds => rw [q2] at e; cases e; exact .cons (toPy_ok q1 h1) (toPys_ok q2 h2)
end
def eqD (x y : D) : Option Bool := match toPy x, toPy y with
  | some d, some e => if (SeqAt.shaped d && SeqAt.shaped e) = true then some (PyData.eqv d e) else none
  | _, _ => none
theorem eqD_ok {P H : Hp} {x y : D} {v u : V} {b : Bool} (s : Same P H) (bx : RepB C P H x v) (b_y : RepB C P H y u) (e : eqD x y = some b) : ∃ d f, Dp C.K H v d ∧ Dp C.K H u f ∧ SeqAt.shaped d = true ∧ SeqAt.shaped f = true ∧ PyData.eqv d f = b := by
  unfold eqD at e
  cases e1 : toPy x with
  | none => rw [e1] at e; cases e
  | some d =>
    cases e2 : toPy y with
    | none => rw [e1, e2] at e; cases e
    | some f =>
      rw [e1, e2] at e
      have e : (if (SeqAt.shaped d && SeqAt.shaped f) = true then some (PyData.eqv d f) else none) = some b := e
      by_cases hs : (SeqAt.shaped d && SeqAt.shaped f) = true
      · rw [if_pos hs] at e
        obtain ⟨h1, h2⟩ := Bool.and_eq_true_iff.mp hs
        exact ⟨d, f, toPy_ok e1 (bx.toH s), toPy_ok e2 (b_y.toH s), h1, h2, Option.some.inj e⟩
      · rw [if_neg hs] at e; cases e
def fEq (x y : D) : Option D := (eqD x y).map .bl
def fNe (x y : D) : Option D := (eqD x y).map fun b => .bl (!b)
theorem o_eq : Op2 C (rEqD C.K) fEq := fun P H x y z v u Q s bx b_y e q => by
  unfold fEq at e
  cases e1 : eqD x y with
  | none => rw [e1] at e; cases e
  | some b =>
    rw [e1] at e
    cases e
    obtain ⟨d, f, h1, h2, h3, h4, rfl⟩ := eqD_ok s bx b_y e1
    exact ⟨d, f, h1, h2, h3, h4, q P H _ Grow.refl Rep.ofBl⟩
theorem o_ne : Op2 C (rNeD C.K) fNe := fun P H x y z v u Q s bx b_y e q => by
  unfold fNe at e
  cases e1 : eqD x y with
  | none => rw [e1] at e; cases e
  | some b =>
    rw [e1] at e
    cases e
    obtain ⟨d, f, h1, h2, h3, h4, rfl⟩ := eqD_ok s bx b_y e1
    exact ⟨d, f, h1, h2, h3, h4, q P H _ Grow.refl Rep.ofBl⟩
/-! ### is None -/
def isN : D → Bool
  | .non => true
  | _ => false
theorem RepB.isN {P H : Hp} {x : D} {v : V} (h : RepB C P H x v) : decide (v = .non) = VL.isN x := by
  cases x with
  | non => rw [(show Rep C P .non v from h).non]; rfl
  | bl b => rw [(show Rep C P (.bl b) v from h).bl]; rfl
  | int b => rw [(show Rep C P (.int b) v from h).int]; rfl
  | str b => rw [(show Rep C P (.str b) v from h).str]; rfl
  | tup b =>
    have h : Rep C P (.tup b) v := h
    rw [Rep] at h
    obtain ⟨a, vs, rfl, _⟩ := h; rfl
  | lst b => obtain ⟨a, vs, rfl, _⟩ := h; rfl
  | ro b => obtain ⟨a, vs, rfl, _⟩ := h; rfl
  | obj c fs =>
    have h : Rep C P (.obj c fs) v := h
    rw [Rep] at h
    obtain ⟨a, dx, us, vs, rfl, _⟩ := h; rfl
  | cl c => rw [(show Rep C P (.cl c) v from h).cl]; rfl
def fIs : D → D → Option D
  | x, .non => some (.bl (isN x))
  | _, _ => none
def fIsNot : D → D → Option D
  | x, .non => some (.bl (!isN x))
  | _, _ => none
theorem o_is : Op2 C (fun x y H Q => y = .non ∧ Q (.bl (decide (x = .non))) H) fIs := fun P H x y z v u Q s bx b_y e q => by
  cases y with
  | non =>
    have e : some (D.bl (isN x)) = some z := e
    cases e
    exact ⟨(show Rep C P .non u from b_y).non, by rw [bx.isN]; exact q P H _ Grow.refl Rep.ofBl⟩
  | _ => cases e
theorem o_isNot : Op2 C (fun x y H Q => y = .non ∧ Q (.bl (!decide (x = .non))) H) fIsNot := fun P H x y z v u Q s bx b_y e q => by
  cases y with
  | non =>
    have e : some (D.bl (!isN x)) = some z := e
    cases e
    exact ⟨(show Rep C P .non u from b_y).non, by rw [bx.isN]; exact q P H _ Grow.refl Rep.ofBl⟩
  | _ => cases e
/-! ### in, not in: flat items -/
def toV : D → Option V
  | .non => some .non
  | .bl b => some (.bl b)
  | .int i => some (.int i)
  | .str x => some (.str x)
  | _ => none
def toVs : List D → Option (List V)
  | [] => some []
  | x :: xs => (toV x).bind fun d => (toVs xs).map (d :: ·)
theorem toV_ok {P H : Hp} {x : D} {v w : V} (e : toV x = some w) (h : RepB C P H x v) : v = w ∧ flatV w = true := by
  cases x with
  | non => cases e; exact ⟨(show Rep C P .non v from h).non, rfl⟩
  | bl b => cases e; exact ⟨(show Rep C P (.bl b) v from h).bl, rfl⟩
  | int b => cases e; exact ⟨(show Rep C P (.int b) v from h).int, rfl⟩
  | str b => cases e; exact ⟨(show Rep C P (.str b) v from h).str, rfl⟩
  | _ => cases e
theorem toVs_ok {P : Hp} : ∀ {xs : List D} {vs ws : List V}, toVs xs = some ws → Reps C P xs vs → vs = ws ∧ ws.all flatV = true
  | [], vs, ws, e, h => by rw [Reps] at h; subst h; cases e; exact ⟨rfl, rfl⟩
  | x :: xs, vs, ws, e, h => by
    rw [Reps] at h
    obtain ⟨v, r, rfl, h1, h2⟩ := h
    unfold toVs at e
    cases e1 : toV x with
    | none => rw [e1] at e; cases e
    | some w =>
      rw [e1] at e
      cases e2 : toVs xs with
      | none => rw [e2] at e; cases e
      | some ws' =>
        rw [e2] at e
        cases e
        obtain ⟨rfl, f1⟩ := toV_ok e1 (Rep.B (Same.refl P) h1)
        obtain ⟨rfl, f2⟩ := toVs_ok e2 h2
        exact ⟨rfl, by rw [List.all_cons, f1, f2]; rfl⟩
def inD (x y : D) : Option Bool := match toV x, (items y).bind toVs with
  | some w, some ws => some (inV w ws)
  | _, _ => none
theorem items_ok {P H : Hp} {y : D} {u : V} {ys : List D} (s : Same P H) (h : RepB C P H y u) (e : items y = some ys) : ∃ p vs, u = .ref p ∧ (SqL C.K H p vs ∨ SqT C.K H p vs) ∧ vs.length ≤ sizeLine ∧ Reps C P ys vs := by
  cases y with
  | lst zs => cases e; obtain ⟨a, vs, rfl, h1, h2, h3⟩ := h; exact ⟨a, vs, rfl, .inl (SqL.of h1), h2, h3⟩
  | ro zs => cases e; obtain ⟨a, vs, rfl, h1, h2, h3⟩ := h; exact ⟨a, vs, rfl, .inl h1, h2, h3⟩
  | tup zs =>
    cases e
    have h : Rep C P (.tup _) u := h
    rw [Rep] at h
    obtain ⟨a, vs, rfl, h1, h2, h3⟩ := h
    exact ⟨a, vs, rfl, .inr (Same.seqT s h1), h2, h3⟩
  | _ => cases e
theorem inD_ok {P H : Hp} {x y : D} {v u : V} {b : Bool} (s : Same P H) (bx : RepB C P H x v) (b_y : RepB C P H y u) (e : inD x y = some b) : ∃ p xs, u = .ref p ∧ (SqL C.K H p xs ∨ SqT C.K H p xs) ∧ flatV v = true ∧ xs.all flatV = true ∧ inV v xs = b := by
  unfold inD at e
  cases e1 : toV x with
  | none => rw [e1] at e; cases e
  | some w =>
    cases e2 : items y with
    | none => rw [e1, e2] at e; cases e
    | some ys =>
      rw [e1, e2] at e
      cases e3 : toVs ys with
      | none => rw [Option.bind_some, e3] at e; cases e
      | some ws =>
        rw [Option.bind_some, e3] at e
        obtain ⟨rfl, f1⟩ := toV_ok e1 bx
        obtain ⟨p, vs, rfl, h1, _, h2⟩ := items_ok s b_y e2
        obtain ⟨rfl, f2⟩ := toVs_ok e3 h2
        exact ⟨p, vs, rfl, h1, f1, f2, Option.some.inj e⟩
def fIn (x y : D) : Option D := (inD x y).map .bl
def fNotIn (x y : D) : Option D := (inD x y).map fun b => .bl (!b)
theorem o_in : Op2 C (rIn C.K false) fIn := fun P H x y z v u Q s bx b_y e q => by
  unfold fIn at e
  cases e1 : inD x y with
  | none => rw [e1] at e; cases e
  | some b =>
    rw [e1] at e
    cases e
    obtain ⟨p, xs, h1, h2, h3, h4, rfl⟩ := inD_ok s bx b_y e1
    exact ⟨p, xs, h1, h2, h3, h4, by rw [if_neg Bool.false_ne_true]; exact q P H _ Grow.refl Rep.ofBl⟩
theorem o_notIn : Op2 C (rIn C.K true) fNotIn := fun P H x y z v u Q s bx b_y e q => by
  unfold fNotIn at e
  cases e1 : inD x y with
  | none => rw [e1] at e; cases e
  | some b =>
    rw [e1] at e
    cases e
    obtain ⟨p, xs, h1, h2, h3, h4, rfl⟩ := inD_ok s bx b_y e1
    exact ⟨p, xs, h1, h2, h3, h4, by rw [if_pos rfl]; exact q P H _ Grow.refl Rep.ofBl⟩
/-! ### x[i] -/
def fIx : D → D → Option D
  | .lst xs, .int i => atI xs i
  | .ro xs, .int i => atI xs i
  | .tup xs, .int i => atI xs i
  | _, _ => none
theorem reps_atI {P : Hp} {xs : List D} {vs : List V} {i : Int} {z : D} (h : Reps C P xs vs) (e : atI xs i = some z) : ∃ w, atI vs i = some w ∧ Rep C P z w := by
  unfold atI at e ⊢
  rw [← h.length]
  cases q : ixN xs.length i with
  | none => rw [q] at e; cases e
  | some j => rw [q] at e; exact h.get' e
theorem o_ix : Op2 C (rIx C.K) fIx := fun P H x y z v u Q s bx b_y e q => by
  cases y with
  | int i =>
    have hu : u = .int i := (show Rep C P (.int i) u from b_y).int
    cases x with
    | lst xs =>
      obtain ⟨a, vs, rfl, h1, h2, h3⟩ := bx
      obtain ⟨w, e1, r⟩ := reps_atI h3 (show atI xs i = some z from e)
      exact .inl ⟨a, vs, i, w, rfl, hu, SqL.of h1, e1, q P H w Grow.refl r⟩
    | ro xs =>
      obtain ⟨a, vs, rfl, h1, h2, h3⟩ := bx
      obtain ⟨w, e1, r⟩ := reps_atI h3 (show atI xs i = some z from e)
      exact .inl ⟨a, vs, i, w, rfl, hu, h1, e1, q P H w Grow.refl r⟩
    | tup xs =>
      have bx : Rep C P (.tup xs) v := bx
      rw [Rep] at bx
      obtain ⟨a, vs, rfl, h1, h2, h3⟩ := bx
      obtain ⟨w, e1, r⟩ := reps_atI h3 (show atI xs i = some z from e)
      exact .inr (.inl ⟨a, vs, i, w, rfl, hu, Same.seqT s h1, e1, q P H w Grow.refl r⟩)
    | _ => cases e
  | _ => cases x <;> cases e
/-! ### len, int, abs, min, max, sum, bool -/
def fLen : List D → Option D
  | [.str x] => if x.length ≤ 16777216 then some (.int x.length) else none
  | [.lst xs] => some (.int xs.length)
  | [.ro xs] => some (.int xs.length)
  | [.tup xs] => some (.int xs.length)
  | _ => none
theorem RepBs.one {P H : Hp} {x : D} {vs : List V} (h : RepBs C P H [x] vs) : ∃ v, vs = [v] ∧ RepB C P H x v := by
  obtain ⟨v, r, rfl, h1, h2⟩ := h
  cases h2
  exact ⟨v, rfl, h1⟩
theorem RepBs.two {P H : Hp} {x y : D} {vs : List V} (h : RepBs C P H [x, y] vs) : ∃ v w, vs = [v, w] ∧ RepB C P H x v ∧ RepB C P H y w := by
  obtain ⟨v, r, rfl, h1, h2⟩ := h
  obtain ⟨w, rfl, h3⟩ := RepBs.one h2
  exact ⟨v, w, rfl, h1, h3⟩
theorem o_len : OpN C (fun xs H Q => ∃ x n, xs = [x] ∧ LenV C.K x H n ∧ Q (.int n) H) fLen := fun P H xs z vs Q s b e q => by
  match xs, e with
  | [.str x], e =>
    obtain ⟨v, rfl, b1⟩ := b.one
    have e : (if x.length ≤ 16777216 then some (D.int x.length) else none) = some z := e
    by_cases hc : x.length ≤ 16777216
    · rw [if_pos hc] at e
      cases e
      exact ⟨v, x.length, rfl, by rw [(show Rep C P (.str x) v from b1).str]; exact ⟨by rw [sizeLine_eq]; exact hc, rfl⟩, q P H _ Grow.refl Rep.ofInt⟩
    · rw [if_neg hc] at e; cases e
  | [.lst x], e =>
    obtain ⟨v, rfl, b1⟩ := b.one
    cases e
    obtain ⟨a, vs, rfl, h1, h2, h3⟩ := b1
    exact ⟨_, x.length, rfl, .inl ⟨vs, SqL.of h1, h3.length⟩, q P H _ Grow.refl Rep.ofInt⟩
  | [.ro x], e =>
    obtain ⟨v, rfl, b1⟩ := b.one
    cases e
    obtain ⟨a, vs, rfl, h1, h2, h3⟩ := b1
    exact ⟨_, x.length, rfl, .inl ⟨vs, h1, h3.length⟩, q P H _ Grow.refl Rep.ofInt⟩
  | [.tup x], e =>
    obtain ⟨v, rfl, b1⟩ := b.one
    cases e
    have b1 : Rep C P (.tup x) v := b1
    rw [Rep] at b1
    obtain ⟨a, vs, rfl, h1, h2, h3⟩ := b1
    exact ⟨_, x.length, rfl, .inr ⟨vs, Same.seqT s h1, h3.length⟩, q P H _ Grow.refl Rep.ofInt⟩
def fInt : List D → Option D
  | [.int i] => some (.int i)
  | [.bl k] => some (.int (if k then 1 else 0))
  | _ => none
theorem o_int : OpN C (fun xs H Q => (∃ i, xs = [.int i] ∧ Q (.int i) H) ∨ ∃ k, xs = [.bl k] ∧ Q (.int (if k then 1 else 0)) H) fInt := fun P H xs z vs Q s b e q => by
  match xs, e with
  | [.int i], e =>
    obtain ⟨v, rfl, b1⟩ := b.one
    cases e
    exact .inl ⟨i, by rw [(show Rep C P (.int i) v from b1).int], q P H _ Grow.refl Rep.ofInt⟩
  | [.bl i], e =>
    obtain ⟨v, rfl, b1⟩ := b.one
    cases e
    exact .inr ⟨i, by rw [(show Rep C P (.bl i) v from b1).bl], q P H _ Grow.refl Rep.ofInt⟩
def fAbs : List D → Option D
  | [.int i] => some (.int (if i < 0 then -i else i))
  | _ => none
theorem o_abs : OpN C (fun xs H Q => ∃ i, xs = [.int i] ∧ Q (.int (if i < 0 then -i else i)) H) fAbs := fun P H xs z vs Q s b e q => by
  match xs, e with
  | [.int i], e =>
    obtain ⟨v, rfl, b1⟩ := b.one
    cases e
    exact ⟨i, by rw [(show Rep C P (.int i) v from b1).int], q P H _ Grow.refl Rep.ofInt⟩
def intL : List D → Option (List Int)
  | [] => some []
  | .int i :: r => (intL r).map (i :: ·)
  | _ :: _ => none
theorem intL_eq : ∀ {xs : List D} {ns : List Int}, intL xs = some ns → xs = ns.map D.int
  | [], ns, e => by cases e; rfl
  | .int i :: r, ns, e => by
    have e : (intL r).map (i :: ·) = some ns := e
    cases q : intL r with
    | none => rw [q] at e; cases e
    | some ms => rw [q] at e; cases e; rw [intL_eq q]; rfl
  | .non :: _, _, e => by cases e
  | .bl _ :: _, _, e => by cases e
  | .str _ :: _, _, e => by cases e
  | .tup _ :: _, _, e => by cases e
  | .lst _ :: _, _, e => by cases e
  | .ro _ :: _, _, e => by cases e
  | .obj _ _ :: _, _, e => by cases e
  | .cl _ :: _, _, e => by cases e
theorem intL_map : ∀ (ns : List Int), intL (ns.map D.int) = some ns
  | [] => rfl
  | n :: ns => by show (intL (ns.map D.int)).map (n :: ·) = _; rw [intL_map ns]; rfl
def maxL : List Int → Int
  | [] => 0
  | [i] => i
  | i :: r => max i (maxL r)
def minL : List Int → Int
  | [] => 0
  | [i] => i
  | i :: r => min i (minL r)
theorem maxL_mem : ∀ {l : List Int}, 0 < l.length → maxL l ∈ l ∧ ∀ y, y ∈ l → y ≤ maxL l
  | [i], _ => ⟨by simp [maxL], fun y h => by simp at h; simp [maxL, h]⟩
  | i :: j :: r, _ => by
    obtain ⟨h1, h2⟩ := maxL_mem (l := j :: r) (by simp)
    show max i (maxL (j :: r)) ∈ _ ∧ ∀ y, _ → y ≤ max i (maxL (j :: r))
    refine ⟨?_, fun y hy => ?_⟩
    · by_cases h : i ≤ maxL (j :: r)
      · rw [Int.max_eq_right h]; exact List.mem_cons_of_mem _ h1
      · rw [Int.max_eq_left (by omega)]; exact List.mem_cons_self ..
    · rcases List.mem_cons.mp hy with rfl | hy
      · omega
      · have := h2 y hy; omega
theorem minL_mem : ∀ {l : List Int}, 0 < l.length → minL l ∈ l ∧ ∀ y, y ∈ l → minL l ≤ y
  | [i], _ => ⟨by simp [minL], fun y h => by simp at h; simp [minL, h]⟩
  | i :: j :: r, _ => by
    obtain ⟨h1, h2⟩ := minL_mem (l := j :: r) (by simp)
    show min i (minL (j :: r)) ∈ _ ∧ ∀ y, _ → min i (minL (j :: r)) ≤ y
    refine ⟨?_, fun y hy => ?_⟩
    · by_cases h : i ≤ minL (j :: r)
      · rw [Int.min_eq_left h]; exact List.mem_cons_self ..
      · rw [Int.min_eq_right (by omega)]; exact List.mem_cons_of_mem _ h1
    · rcases List.mem_cons.mp hy with rfl | hy
      · omega
      · have := h2 y hy; omega
def lsts : D → Option (List D)
  | .lst xs => some xs
  | .ro xs => some xs
  | _ => none
theorem lsts_ok {P H : Hp} {y : D} {u : V} {ys : List D} (h : RepB C P H y u) (e : lsts y = some ys) : ∃ p vs, u = .ref p ∧ SqL C.K H p vs ∧ vs.length ≤ sizeLine ∧ Reps C P ys vs := by
  cases y with
  | lst zs => cases e; obtain ⟨a, vs, rfl, h1, h2, h3⟩ := h; exact ⟨a, vs, rfl, SqL.of h1, h2, h3⟩
  | ro zs => cases e; obtain ⟨a, vs, rfl, h1, h2, h3⟩ := h; exact ⟨a, vs, rfl, h1, h2, h3⟩
  | _ => cases e
def intsOf (d : D) : Option (List Int) := (lsts d).bind intL
theorem intsOf_ok {P H : Hp} {y : D} {u : V} {ns : List Int} (h : RepB C P H y u) (e : intsOf y = some ns) : ∃ p, u = .ref p ∧ SqL C.K H p (ns.map V.int) := by
  unfold intsOf at e
  cases e1 : lsts y with
  | none => rw [e1] at e; cases e
  | some ys =>
    rw [e1] at e
    obtain ⟨p, vs, rfl, h1, _, h2⟩ := lsts_ok h e1
    have := intL_eq (show intL ys = some ns from e)
    subst this
    rw [h2.ints] at h1
    exact ⟨p, rfl, h1⟩
def fMax : List D → Option D
  | [.int i, .int j] => some (.int (max i j))
  | [x] => (intsOf x).bind fun ns => if 0 < ns.length then some (.int (maxL ns)) else none
  | _ => none
def fMin : List D → Option D
  | [.int i, .int j] => some (.int (min i j))
  | [x] => (intsOf x).bind fun ns => if 0 < ns.length then some (.int (minL ns)) else none
  | _ => none
def fSum : List D → Option D
  | [x] => (intsOf x).map fun ns => .int ns.sum
  | _ => none
abbrev rMaxB (K : PySem.W.Frag) : List V → Hp → VK → Prop := fun xs H Q => (∃ i j, xs = [.int i, .int j] ∧ Q (.int (if j > i then j else i)) H) ∨ rMax K xs H Q
abbrev rMinB (K : PySem.W.Frag) : List V → Hp → VK → Prop := fun xs H Q => (∃ i j, xs = [.int i, .int j] ∧ Q (.int (if j < i then j else i)) H) ∨ rMin K xs H Q
theorem h_max (hc : X.calm = true) : CallR X (.builtin "max") (rMaxB X.K) := (call_max2 hc).or (cr_max hc)
theorem h_min (hc : X.calm = true) : CallR X (.builtin "min") (rMinB X.K) := (call_min2 hc).or (cr_min hc)
theorem ite_max (i j : Int) : (if j > i then j else i) = max i j := by
  by_cases h : j > i
  · rw [if_pos h]; omega
  · rw [if_neg h]; omega
theorem ite_min (i j : Int) : (if j < i then j else i) = min i j := by
  by_cases h : j < i
  · rw [if_pos h]; omega
  · rw [if_neg h]; omega
theorem max_one {P H : Hp} {x z : D} {vs : List V} {Q : VK} (b : RepBs C P H [x] vs) (e : ((intsOf x).bind fun ns => if 0 < ns.length then some (D.int (maxL ns)) else none) = some z) (q : ∀ P' H' w, Grow P H P' H' → Rep C P' z w → Q w H') : rMax C.K vs H Q := by
  obtain ⟨v, rfl, b1⟩ := b.one
  cases e1 : intsOf x with
  | none => rw [e1] at e; cases e
  | some ns =>
    rw [e1, Option.bind_some] at e
    by_cases hc : 0 < ns.length
    · rw [if_pos hc] at e
      cases e
      obtain ⟨p, rfl, h⟩ := intsOf_ok b1 e1
      refine ⟨p, ns, rfl, h, hc, fun m hm hy => ?_⟩
      obtain ⟨h1, h2⟩ := maxL_mem hc
      have := hy _ h1
      have := h2 m hm
      rw [show m = maxL ns by omega]
      exact q P H _ Grow.refl Rep.ofInt
    · rw [if_neg hc] at e; cases e
theorem min_one {P H : Hp} {x z : D} {vs : List V} {Q : VK} (b : RepBs C P H [x] vs) (e : ((intsOf x).bind fun ns => if 0 < ns.length then some (D.int (minL ns)) else none) = some z) (q : ∀ P' H' w, Grow P H P' H' → Rep C P' z w → Q w H') : rMin C.K vs H Q := by
  obtain ⟨v, rfl, b1⟩ := b.one
  cases e1 : intsOf x with
  | none => rw [e1] at e; cases e
  | some ns =>
    rw [e1, Option.bind_some] at e
    by_cases hc : 0 < ns.length
    · rw [if_pos hc] at e
      cases e
      obtain ⟨p, rfl, h⟩ := intsOf_ok b1 e1
      refine ⟨p, ns, rfl, h, hc, fun m hm hy => ?_⟩
      obtain ⟨h1, h2⟩ := minL_mem hc
      have := hy _ h1
      have := h2 m hm
      rw [show m = minL ns by omega]
      exact q P H _ Grow.refl Rep.ofInt
    · rw [if_neg hc] at e; cases e
theorem o_max : OpN C (rMaxB C.K) fMax := fun P H xs z vs Q s b e q => by
  match xs, e with
  | [.int i, .int j], e =>
    obtain ⟨v, w, rfl, b1, b2⟩ := b.two
    cases e
    exact .inl ⟨i, j, by rw [(show Rep C P (.int i) v from b1).int, (show Rep C P (.int j) w from b2).int], by rw [ite_max]; exact q P H _ Grow.refl Rep.ofInt⟩
  | [.lst x], e => exact .inr (max_one b e q)
  | [.ro x], e => exact .inr (max_one b e q)
  | [.int x], e => exact .inr (max_one b e q)
  | [.non], e => exact .inr (max_one b e q)
  | [.bl x], e => exact .inr (max_one b e q)
  | [.str x], e => exact .inr (max_one b e q)
  | [.tup x], e => exact .inr (max_one b e q)
  | [.obj _ _], e => exact .inr (max_one b e q)
  | [.cl _], e => exact .inr (max_one b e q)
theorem o_min : OpN C (rMinB C.K) fMin := fun P H xs z vs Q s b e q => by
  match xs, e with
  | [.int i, .int j], e =>
    obtain ⟨v, w, rfl, b1, b2⟩ := b.two
    cases e
    exact .inl ⟨i, j, by rw [(show Rep C P (.int i) v from b1).int, (show Rep C P (.int j) w from b2).int], by rw [ite_min]; exact q P H _ Grow.refl Rep.ofInt⟩
  | [.lst x], e => exact .inr (min_one b e q)
  | [.ro x], e => exact .inr (min_one b e q)
  | [.int x], e => exact .inr (min_one b e q)
  | [.non], e => exact .inr (min_one b e q)
  | [.bl x], e => exact .inr (min_one b e q)
  | [.str x], e => exact .inr (min_one b e q)
  | [.tup x], e => exact .inr (min_one b e q)
  | [.obj _ _], e => exact .inr (min_one b e q)
  | [.cl _], e => exact .inr (min_one b e q)
theorem o_sum : OpN C (rSum C.K) fSum := fun P H xs z vs Q s b e q => by
  match xs, e with
  | [x], e =>
    obtain ⟨v, rfl, b1⟩ := b.one
    have e : ((intsOf x).map fun ns => D.int ns.sum) = some z := e
    cases e1 : intsOf x with
    | none => rw [e1] at e; cases e
    | some ns =>
      rw [e1] at e
      cases e
      obtain ⟨p, rfl, h⟩ := intsOf_ok b1 e1
      exact ⟨p, ns, rfl, h, q P H _ Grow.refl Rep.ofInt⟩
def fBool : List D → Option D
  | [.int i] => some (.bl (i != 0))
  | [.bl k] => some (.bl k)
  | [.lst xs] => some (.bl (!xs.isEmpty))
  | [.ro xs] => some (.bl (!xs.isEmpty))
  | _ => none
abbrev rBoolB (K : PySem.W.Frag) : List V → Hp → VK → Prop := fun xs H Q => ((∃ i, xs = [.int i] ∧ Q (.bl (i != 0)) H) ∨ ∃ k, xs = [.bl k] ∧ Q (.bl k) H) ∨ ∃ (a : Addr) (zs : List V), xs = [.ref a] ∧ SqL K H a zs ∧ Q (.bl (!zs.isEmpty)) H
theorem h_bool : CallR X (.type "bool") (rBoolB X.K) := call_bool1.or call_boolL
theorem emp_eq {P : Hp} {xs : List D} {vs : List V} (h : Reps C P xs vs) : vs.isEmpty = xs.isEmpty := by
  have := h.length
  cases xs <;> cases vs <;> simp at this ⊢
theorem o_bool : OpN C (rBoolB C.K) fBool := fun P H xs z vs Q s b e q => by
  match xs, e with
  | [.int i], e =>
    obtain ⟨v, rfl, b1⟩ := b.one
    cases e
    exact .inl (.inl ⟨i, by rw [(show Rep C P (.int i) v from b1).int], q P H _ Grow.refl Rep.ofBl⟩)
  | [.bl i], e =>
    obtain ⟨v, rfl, b1⟩ := b.one
    cases e
    exact .inl (.inr ⟨i, by rw [(show Rep C P (.bl i) v from b1).bl], q P H _ Grow.refl Rep.ofBl⟩)
  | [.lst xs], e =>
    obtain ⟨v, rfl, b1⟩ := b.one
    cases e
    obtain ⟨a, vs, rfl, h1, h2, h3⟩ := b1
    exact .inr ⟨a, vs, rfl, SqL.of h1, by rw [emp_eq h3]; exact q P H _ Grow.refl Rep.ofBl⟩
  | [.ro xs], e =>
    obtain ⟨v, rfl, b1⟩ := b.one
    cases e
    obtain ⟨a, vs, rfl, h1, h2, h3⟩ := b1
    exact .inr ⟨a, vs, rfl, h1, by rw [emp_eq h3]; exact q P H _ Grow.refl Rep.ofBl⟩
/-! ### list(..), tuple(..), xs + ys, xs * n -/
def fList : List D → Option (List D)
  | [x] => items x
  | _ => none
theorem o_list : OpF C (fun xs H Q => ∃ p ys, xs = [.ref p] ∧ (SqL C.K H p ys ∨ SqT C.K H p ys) ∧ ∀ l, H l = none → Q (.ref l) (upd H l (.lst ys))) fList := fun P H xs zs vs Q s b e q => by
  match xs, e with
  | [x], e =>
    obtain ⟨v, rfl, b1⟩ := b.one
    obtain ⟨p, us, rfl, h1, h2, h3⟩ := items_ok s b1 (show items x = some zs from e)
    exact ⟨p, us, rfl, h1, fun l hl => q l us hl h2 h3⟩
def fTuple : List D → Option D
  | [.lst xs] => some (.tup xs)
  | [.ro xs] => some (.tup xs)
  | [.tup xs] => some (.tup xs)
  | _ => none
theorem o_tuple : OpN C (fun xs H Q => ∃ p ys, xs = [.ref p] ∧ ((SqL C.K H p ys ∧ ∀ l, H l = none → Q (.ref l) (upd H l (.tup ys))) ∨ (SqT C.K H p ys ∧ Q (.ref p) H))) fTuple := fun P H xs z vs Q s b e q => by
  have mk : ∀ (p : Addr) (us : List V) (ys : List D), SqL C.K H p us → us.length ≤ sizeLine → Reps C P ys us → z = .tup ys → ∀ l, H l = none → Q (.ref l) (upd H l (.tup us)) := fun p us ys h1 h2 h3 ez l hl => by
    have np : P l = none := by
      cases e1 : P l with
      | none => rfl
      | some o => rw [s l o e1] at hl; cases hl
    refine q (upd P l (.tup us)) _ _ (.inr ⟨l, .tup us, hl, rfl, rfl⟩) ?_
    rw [ez, Rep]
    exact ⟨l, us, rfl, SqT.of upd_same, h2, h3.mono (same_upd np)⟩
  match xs, e with
  | [.lst xs], e =>
    obtain ⟨v, rfl, b1⟩ := b.one
    cases e
    obtain ⟨a, us, rfl, h1, h2, h3⟩ := b1
    exact ⟨a, us, rfl, .inl ⟨SqL.of h1, mk a us xs (SqL.of h1) h2 h3 rfl⟩⟩
  | [.ro xs], e =>
    obtain ⟨v, rfl, b1⟩ := b.one
    cases e
    obtain ⟨a, us, rfl, h1, h2, h3⟩ := b1
    exact ⟨a, us, rfl, .inl ⟨h1, mk a us xs h1 h2 h3 rfl⟩⟩
  | [.tup xs], e =>
    obtain ⟨v, rfl, b1⟩ := b.one
    cases e
    have b1 : Rep C P (.tup xs) v := b1
    have b2 := b1
    rw [Rep] at b2
    obtain ⟨a, us, rfl, h1, h2, h3⟩ := b2
    exact ⟨a, us, rfl, .inr ⟨Same.seqT s h1, q P H _ Grow.refl b1⟩⟩
def fCat : D → D → Option (List D)
  | .lst xs, .lst ys => if xs.length + ys.length ≤ 16777216 then some (xs ++ ys) else none
  | _, _ => none
theorem o_cat : Op2F C rCat fCat := fun P H x y zs v u Q s bx b_y e q => by
  cases x with
  | lst xs =>
    cases y with
    | lst ys =>
      have e : (if xs.length + ys.length ≤ 16777216 then some (xs ++ ys) else none) = some zs := e
      by_cases hc : xs.length + ys.length ≤ 16777216
      · rw [if_pos hc] at e
        cases e
        obtain ⟨a, us, rfl, h1, h2, h3⟩ := bx
        obtain ⟨c, ws, rfl, h4, h5, h6⟩ := b_y
        have hl : us.length + ws.length ≤ sizeLine := by rw [← h3.length, ← h6.length, sizeLine_eq]; exact hc
        exact ⟨a, c, us, ws, rfl, rfl, h1, h4, hl, fun p hp => q p _ hp (by rw [List.length_append]; exact hl) (h3.append h6)⟩
      · rw [if_neg hc] at e; cases e
    | _ => cases e
  | _ => cases e
def fRep : D → D → Option (List D)
  | .lst xs, .int k => if (in62 k && decide (xs.length * k.toNat ≤ 16777216)) = true then some (List.replicate k.toNat xs).flatten else none
  | _, _ => none
theorem reps_rep {P : Hp} {xs : List D} {us : List V} (h : Reps C P xs us) : ∀ k : Nat, Reps C P (List.replicate k xs).flatten (List.replicate k us).flatten
  | 0 => Reps.nil
  | k + 1 => by
    rw [List.replicate_succ, List.replicate_succ, List.flatten_cons, List.flatten_cons]
    exact h.append (reps_rep h k)
theorem o_rep : Op2F C rRep fRep := fun P H x y zs v u Q s bx b_y e q => by
  cases x with
  | lst xs =>
    cases y with
    | int k =>
      have e : (if (in62 k && decide (xs.length * k.toNat ≤ 16777216)) = true then some (List.replicate k.toNat xs).flatten else none) = some zs := e
      by_cases hc : (in62 k && decide (xs.length * k.toNat ≤ 16777216)) = true
      · rw [if_pos hc] at e
        cases e
        obtain ⟨a, us, rfl, h1, h2, h3⟩ := bx
        have hu : u = .int k := (show Rep C P (.int k) u from b_y).int
        obtain ⟨g1, g2⟩ := Bool.and_eq_true_iff.mp hc
        obtain ⟨g3, g4⟩ := in62_ok g1
        have hl : us.length * k.toNat ≤ sizeLine := by rw [← h3.length, sizeLine_eq]; exact of_decide_eq_true g2
        refine ⟨a, k, us, rfl, hu, h1, by omega, by omega, hl, fun p hp => q p _ hp ?_ (reps_rep h3 k.toNat)⟩
        rw [List.length_flatten]
        simp only [List.map_replicate, List.sum_replicate_nat]
        rw [Nat.mul_comm]; exact hl
      · rw [if_neg hc] at e; cases e
    | _ => cases e
  | _ => cases e
/-! ### methods of lists -/
def fAppend (as xs : List D) : Option (List D × D) := match as with
  | [x] => if xs.length < 16777216 then some (xs ++ [x], .non) else none
  | _ => none
theorem o_append : MtN C rAppend fAppend := fun P H a as xs ys z vs us Q ha hl ra s r e q => by
  match as, e with
  | [x], e =>
    have e : (if xs.length < 16777216 then some (xs ++ [x], D.non) else none) = some (ys, z) := e
    by_cases hc : xs.length < 16777216
    · rw [if_pos hc] at e
      cases e
      rw [Reps] at ra
      obtain ⟨v, r', rfl, h1, h2⟩ := ra
      rw [Reps] at h2
      subst h2
      have hl' : us.length < sizeLine := by rw [← r.length, sizeLine_eq]; exact hc
      exact ⟨a, us, v, rfl, rfl, ha, hl', q _ _ (by simp; omega) (r.append (Reps.cons h1 Reps.nil)) Rep.ofNon⟩
    · rw [if_neg hc] at e; cases e
def fPop (xs : List D) : Option (List D × D) := match xs[xs.length - 1]? with
  | some x => some (xs.dropLast, x)
  | none => none
theorem reps_dropLast {P : Hp} {xs : List D} {us : List V} (h : Reps C P xs us) : Reps C P xs.dropLast us.dropLast := by
  rw [List.dropLast_eq_take, List.dropLast_eq_take, h.length]
  exact h.take _
theorem o_pop : Mt0 C rPop fPop := fun P H a xs ys z us Q ha hl r e q => by
  unfold fPop at e
  cases e1 : xs[xs.length - 1]? with
  | none => rw [e1] at e; cases e
  | some x =>
    rw [e1] at e
    cases e
    obtain ⟨v, h1, h2⟩ := r.get' e1
    rw [r.length] at h1
    exact ⟨a, us, v, rfl, rfl, ha, h1, q _ v (by simp; omega) (reps_dropLast r) h2⟩
def fReverse (xs : List D) : Option (List D × D) := some (xs.reverse, .non)
theorem o_reverse : Mt0 C rReverse fReverse := fun P H a xs ys z us Q ha hl r e q => by
  cases e
  exact ⟨a, us, rfl, rfl, ha, q _ _ (by simpa using hl) r.reverse Rep.ofNon⟩
end
end VL

set_option Elab.async false
set_option linter.all false
set_option maxRecDepth 100000
set_option maxHeartbeats 4000000
/-! VL10: isinstance, -x, texts, raise, slices, bit_length. -/
namespace VL
open PySem PySem.Spec L2
section
variable {C : Kx} {F : Fc} {X : Cx} {e a b c : PySem.Expr} {es : List PySem.Expr} {pos : Pos} {ma mb : M Hd} {ms : M (List Hd)}
/-! ### one-place operations -/
def mOp1 (f : D → Option D) (m : M Hd) : M Hd := m.bind fun h => (view h).bind fun x => (M.lift (f x)).bind fun z => M.pure (.d z)
def Op1 (C : Kx) (r : V → Hp → VK → Prop) (f : D → Option D) : Prop := ∀ (P H : Hp) (x z : D) (v : V) (Q : VK), Same P H → RepB C P H x v → f x = some z → (∀ P' H' w, Grow P H P' H' → Rep C P' z w → Q w H') → r v H Q
theorem op1_reading {r : V → Hp → VK → Prop} {f : D → Option D} (o : Op1 C r f) {W : WX} {σ : L2.St} {H : Hp} {Q : VK} (h : rdH C W (mOp1 f ma) σ H Q) : rdH C W ma σ H (fun v H1 => r v H1 Q) := by
  obtain ⟨F, ρ, P, R, q⟩ := h
  refine ⟨F, ρ, P, R, (Hold.bind (R1 := RH C σ) q).imp ?_⟩
  rintro v H1 ⟨h1, ρ1, P1, s1, R1, r1, q1⟩
  obtain ⟨x, b, q2⟩ := Hold.view R1 r1 q1
  obtain ⟨z, ez, q3⟩ := Hold.lift q2
  refine o P1 H1 x z v Q R1.sub b ez fun P' H' w g rz => ?_
  obtain ⟨s, R'⟩ := g.rel R1
  exact q3 P' H' w s R' rz
def fNeg : D → Option D
  | .int i => some (.int (-i))
  | _ => none
theorem o_neg : Op1 C (rU fun i => .int (-i)) fNeg := fun P H x z v Q s b e q => by
  cases x with
  | int i => cases e; exact ⟨i, (show Rep C P (.int i) v from b).int, q P H _ Grow.refl Rep.ofInt⟩
  | _ => cases e
theorem snd_neg (ha : SndH C X a ma) : SndH C X (.UnaryOp .USub a pos) (mOp1 fNeg ma) := fun W tk => (pe_un un_neg (ha W tk)).imp fun σ H Q h => op1_reading o_neg h
def fBits : D → Option D
  | .int i => some (.int (Builtin.Int.intBits i : Nat))
  | _ => none
theorem o_bits : Op1 C (fun x H Q => ∃ i, x = .int i ∧ Q (.int (Builtin.Int.intBits i : Nat)) H) fBits := fun P H x z v Q s b e q => by
  cases x with
  | int i => cases e; exact ⟨i, (show Rep C P (.int i) v from b).int, q P H _ Grow.refl Rep.ofInt⟩
  | _ => cases e
theorem snd_bits {apos : Pos} (ha : SndH C X a ma) (hbase : attributeBase a "bit_length" X.env (eval a X.env) = eval a X.env) (hline : (apos.endLine == pos.line) = true) : SndH C X (.Call (.Attribute a "bit_length" apos) [] [] pos) (mOp1 fBits ma) :=
  fun W tk => (pe_bits (ha W tk) hbase hline).imp fun σ H Q h => op1_reading o_bits h
theorem RepB.up {P H H' : Hp} {x : D} {v : V} (b : RepB C P H x v) (s : Same H H') : RepB C P H' x v := by
  cases x with
  | lst xs => obtain ⟨a, vs, e, h1, h2, h3⟩ := b; exact ⟨a, vs, e, s _ _ h1, h2, h3⟩
  | ro xs => obtain ⟨a, vs, e, h1, h2, h3⟩ := b; exact ⟨a, vs, e, s.seq h1, h2, h3⟩
  | _ => exact b
/-! ### isinstance -/
/-- T: 0 int, 1 bool, 2 str, 3 list, 4 tuple -/
def isT : Nat → D → Option Bool
  | 0, .int _ => some true
  | 0, .bl _ => some true
  | 1, .bl _ => some true
  | 2, .str _ => some true
  | 3, .lst _ => some true
  | 3, .ro _ => some true
  | 4, .tup _ => some true
  | _, .obj _ _ => none
  | _, .cl _ => none
  | _, _ => some false
def nmT : Nat → String
  | 0 => "int"
  | 1 => "bool"
  | 2 => "str"
  | 3 => "list"
  | _ => "tuple"
def tyS : D → Option String
  | .non => some "NoneType"
  | .bl _ => some "bool"
  | .int _ => some "int"
  | .str _ => some "str"
  | .tup _ => some "tuple"
  | .lst _ => some "list"
  | .ro _ => some "list"
  | _ => none
theorem tyX_ok {P H : Hp} {x : D} {v : V} {t : String} (s : Same P H) (b : RepB C P H x v) (e : tyS x = some t) : TyX C.K H v (.type t) := by
  cases x with
  | non => cases e; rw [(show Rep C P .non v from b).non]; exact .base .non
  | bl k => cases e; rw [(show Rep C P (.bl k) v from b).bl]; exact .base (.bl k)
  | int k => cases e; rw [(show Rep C P (.int k) v from b).int]; exact .base (.int k)
  | str k => cases e; rw [(show Rep C P (.str k) v from b).str]; exact .base (.str k)
  | tup xs =>
    cases e
    have b : Rep C P (.tup xs) v := b
    rw [Rep] at b
    obtain ⟨a, vs, rfl, h, _⟩ := b
    rcases Same.seqT s h with (h | ⟨o, h⟩) | ⟨o, its, n, h1, h2, _⟩
    · exact .base (.tup h)
    · exact .fTuple h
    · exact .kTuple h1 h2
  | lst xs =>
    cases e
    obtain ⟨a, vs, rfl, h, _⟩ := b
    exact .base (.lst h)
  | ro xs =>
    cases e
    obtain ⟨a, vs, rfl, h, _⟩ := b
    rcases h with (h | ⟨o, h⟩) | ⟨o, its, n, h1, h2, _⟩
    · exact .base (.lst h)
    · exact .base (.frz h)
    · exact .kList h1 h2
  | obj c fs => cases e
  | cl c => cases e
def tyAll : List String := ["NoneType", "bool", "int", "str", "tuple", "list"]
theorem kit_isT {n : Nat} (hn : n < 5) {x : D} {k : Bool} (e : isT n x = some k) : ∃ t, tyS x = some t ∧ kitB t (nmT n) = some k := by
  match n, hn with
  | 0, _ => cases x <;> first | (cases e; done) | (cases e; exact ⟨_, rfl, by decide +kernel⟩)
  | 1, _ => cases x <;> first | (cases e; done) | (cases e; exact ⟨_, rfl, by decide +kernel⟩)
  | 2, _ => cases x <;> first | (cases e; done) | (cases e; exact ⟨_, rfl, by decide +kernel⟩)
  | 3, _ => cases x <;> first | (cases e; done) | (cases e; exact ⟨_, rfl, by decide +kernel⟩)
  | 4, _ => cases x <;> first | (cases e; done) | (cases e; exact ⟨_, rfl, by decide +kernel⟩)
def fIsT (n : Nat) (x : D) : Option D := (isT n x).map .bl
/-- isinstance(a, T) by a reading of its first argument -/
theorem isi_reading {ty : V} {r : List V → Hp → VK → Prop} {f : D → Option D} (o : Op1 C (fun v H Q => r [v, ty] H Q) f) {W : WX} {σ : L2.St} {H : Hp} {Q : VK} (h : rdH C W (mOp1 f ma) σ H Q) : tCB r (tCons (rdH C W ma) (tCons (tC ty) tNil)) σ H Q :=
  op1_reading o h
theorem snd_isT {n : Nat} (hn : n < 5) {p q : Pos} {x : Str} (hx : bootBuiltins x = some (.type (nmT n))) (hx1 : x ≠ "__name__") (hx2 : (x == ("__debug__" : Str)) = false) (hg : Gl X "isinstance") (hm : X.mg "isinstance" = none) (hg' : Gl X x) (hm' : X.mg x = none) (hK : X.K = C.K) (ha : SndH C X a ma)
    (he : starEach [a, .Name x q] X.env = (false, eval a X.env) :: starEach [.Name x q] X.env) (he2 : starEach [PySem.Expr.Name x q] X.env = (false, eval (.Name x q) X.env) :: starEach [] X.env) (hpl : (backTo pos (starEach [.Name x q] X.env)).any (·.1) = false) :
    SndH C X (.Call (.Name "isinstance" p) [a, .Name x q] [] pos) (mOp1 (fIsT n) ma) := fun W tk =>
  (pe_callB call_isi hg hm rfl (pa_cons (ha W tk) (pa_cons (pe_bltn hg' hm' hx (v := .ty (nmT n)) rfl hx1 hx2) pa_nil he2) he) (by decide) (by decide) he hpl).imp fun σ H Q h => isi_reading (ty := .ty (nmT n)) (fun P H x z v Q s b e q => by
    unfold fIsT at e
    cases e1 : isT n x with
    | none => rw [e1] at e; cases e
    | some k =>
      rw [e1] at e
      cases e
      obtain ⟨t, h1, h2⟩ := kit_isT hn e1
      exact ⟨v, .ty (nmT n), .type t, .type (nmT n), k, rfl, .ty _, by rw [hK]; exact tyX_ok s b h1, kit_ty h2, q P H _ Grow.refl Rep.ofBl⟩) h
/-- isinstance(a, (list, tuple)) -/
def isLT (x : D) : Option Bool := match isT 3 x, isT 4 x with
  | some a, some b => some (a || b)
  | _, _ => none
def fIsLT (x : D) : Option D := (isLT x).map .bl
theorem snd_isLT {p q1 q2 q3 : Pos} {k} (hg : Gl X "isinstance") (hm : X.mg "isinstance" = none) (hg1 : Gl X "list") (hm1 : X.mg "list" = none) (hg2 : Gl X "tuple") (hm2 : X.mg "tuple" = none) (hK : X.K = C.K) (ha : SndH C X a ma)
    (he : starEach [a, .Tuple [.Name "list" q1, .Name "tuple" q2] k q3] X.env = (false, eval a X.env) :: starEach [.Tuple [.Name "list" q1, .Name "tuple" q2] k q3] X.env)
    (he2 : starEach [PySem.Expr.Tuple [.Name "list" q1, .Name "tuple" q2] k q3] X.env = (false, eval (.Tuple [.Name "list" q1, .Name "tuple" q2] k q3) X.env) :: starEach [] X.env)
    (he3 : starEach [PySem.Expr.Name "list" q1, .Name "tuple" q2] X.env = (false, eval (.Name "list" q1) X.env) :: starEach [.Name "tuple" q2] X.env) (he4 : starEach [PySem.Expr.Name "tuple" q2] X.env = (false, eval (.Name "tuple" q2) X.env) :: starEach [] X.env)
    (hpl : (backTo pos (starEach [.Tuple [.Name "list" q1, .Name "tuple" q2] k q3] X.env)).any (·.1) = false) :
    SndH C X (.Call (.Name "isinstance" p) [a, .Tuple [.Name "list" q1, .Name "tuple" q2] k q3] [] pos) (mOp1 fIsLT ma) := fun W tk =>
  (pe_callB call_isiT hg hm rfl (pa_cons (ha W tk) (pa_cons (pe_tup (pa_cons (pe_bltn hg1 hm1 rfl (v := .ty "list") rfl) (pa_cons (pe_bltn hg2 hm2 rfl (v := .ty "tuple") rfl) pa_nil he4) he3)) pa_nil he2) he) (by decide) (by decide) he hpl).imp fun σ H Q h => by
    obtain ⟨F, ρ, P, R, q⟩ := h
    refine ⟨F, ρ, P, R, (Hold.bind (R1 := RH C σ) q).imp ?_⟩
    rintro v H1 ⟨h1, ρ1, P1, s1, R1, r1, q1⟩
    obtain ⟨x, b, q2⟩ := Hold.view R1 r1 q1
    obtain ⟨z, ez, q3⟩ := Hold.lift q2
    refine ⟨by decide, fun tp htp => ?_⟩
    unfold fIsLT isLT at ez
    cases e1 : isT 3 x with
    | none => rw [e1] at ez; cases ez
    | some k1 =>
      cases e2 : isT 4 x with
      | none => rw [e1, e2] at ez; cases ez
      | some k2 =>
        rw [e1, e2] at ez
        cases ez
        obtain ⟨t, h1, h2⟩ := kit_isT (by decide) e1
        obtain ⟨t', h3, h4⟩ := kit_isT (by decide) e2
        rw [h1] at h3
        cases h3
        have R2 := R1.lay (.tup [.ty "list", .ty "tuple"]) htp
        refine ⟨v, tp, [.ty "list", .ty "tuple"], .type t, [.type "list", .type "tuple"], k1 || k2, rfl, upd_same, .cons (.ty _) (.cons (.ty _) .nil), ?_, ?_, q3 P1 _ _ (Same.refl _) R2 (show Rep C P1 (.bl _) _ from Rep.ofBl)⟩
        · rw [hK]
          exact tyX_ok R2.sub (b.up (same_upd htp)) h1
        · refine kitAny_cons (kit_ty h2) (fun e => ?_) (fun e => by rw [e]; rfl)
          refine kitAny_cons (kit_ty h4) (fun e' => ?_) (fun e' => by rw [e', Bool.or_true])
          rw [e, e']
          exact kitAny_nil
/-- isinstance(a, T), T an own class: objects of a class in os answer true, other data false -/
def isC (c : Nat) : D → Option Bool
  | .obj c' _ => some (c' == c)
  | .cl _ => none
  | _ => some false
def fIsC (c : Nat) (x : D) : Option D := (isC c x).map .bl
/-- what of the text is needed -/
structure KIs (C : Kx) (X : Cx) (c : Nat) (cs : List Nat) : Prop where
  base : ∀ t ∈ tyAll, PySem.W.kitOne C.K (.type t) (.ref (C.cls c)) = some false
  own : ∀ c' ∈ cs, PySem.W.kitOne C.K (.ref (C.cls c')) (.ref (C.cls c)) = some (c' == c)
  sc : ∀ c' ∈ cs, SlX.SCls C.K (C.cls c')
  si : ∀ c' ∈ cs, SlX.SIsi C.K (C.cls c')
def fIsC' (c : Nat) (cs : List Nat) : D → Option D
  | .obj c' _ => if cs.contains c' = true then some (.bl (c' == c)) else none
  | .cl _ => none
  | _ => some (.bl false)
theorem tyS_all {x : D} {t : String} (e : tyS x = some t) : t ∈ tyAll := by
  cases x <;> first | (cases e; done) | (cases e; decide)
theorem snd_isC {c : Nat} {cs : List Nat} (k : KIs C X c cs) {p q : Pos} {x : Str} (hx2 : (x == ("__debug__" : Str)) = false) (hg : Gl X "isinstance") (hm : X.mg "isinstance" = none) (hg' : Gl X x) (hm' : X.mg x = some (.ref (C.cls c))) (hK : X.K = C.K) (ha : SndH C X a ma)
    (he : starEach [a, .Name x q] X.env = (false, eval a X.env) :: starEach [.Name x q] X.env) (he2 : starEach [PySem.Expr.Name x q] X.env = (false, eval (.Name x q) X.env) :: starEach [] X.env) (hpl : (backTo pos (starEach [.Name x q] X.env)).any (·.1) = false) :
    SndH C X (.Call (.Name "isinstance" p) [a, .Name x q] [] pos) (mOp1 (fIsC' c cs) ma) := fun W tk =>
  (pe_callB (call_isi.or (SlX.call_isiSl (.ref (C.cls c)))) hg hm rfl (pa_cons (ha W tk) (pa_cons (pe_glob hg' hm' (v := .ref (C.cls c)) rfl hx2) pa_nil he2) he) (by decide) (by decide) he hpl).imp fun σ H Q h => isi_reading (ty := .ref (C.cls c)) (fun P H x z v Q s b e q => by
    have plain : ∀ t, tyS x = some t → fIsC' c cs x = some (.bl false) → rIsi X.K [v, .ref (C.cls c)] H Q := fun t ht hf => by
      rw [hf] at e
      cases e
      exact ⟨v, .ref (C.cls c), .type t, .ref (C.cls c), false, rfl, .own _, by rw [hK]; exact tyX_ok s b ht, by rw [hK]; exact k.base t (tyS_all ht), q P H _ Grow.refl Rep.ofBl⟩
    cases x with
    | obj c' fs =>
      have e : (if cs.contains c' = true then some (D.bl (c' == c)) else none) = some z := e
      by_cases hc : cs.contains c' = true
      · rw [if_pos hc] at e
        cases e
        have hc : c' ∈ cs := by simpa using hc
        obtain ⟨a', dx, us, vs, rfl, h2, h3, h4⟩ := slt_of s (show Rep C P (.obj c' fs) v from b)
        refine Or.inr ⟨a', C.cls c', dx, us, .ref (C.cls c), c' == c, rfl, rfl, fun w hw => hw, h2, ?_, ?_, ?_, q P H _ Grow.refl Rep.ofBl⟩
        · rw [hK]; exact k.sc c' hc
        · rw [hK]; exact k.si c' hc
        · rw [hK]; exact k.own c' hc
      · rw [if_neg hc] at e; cases e
    | cl c' => cases e
    | non => exact .inl (plain _ rfl rfl)
    | bl k => exact .inl (plain _ rfl rfl)
    | int k => exact .inl (plain _ rfl rfl)
    | str k => exact .inl (plain _ rfl rfl)
    | tup k => exact .inl (plain _ rfl rfl)
    | lst k => exact .inl (plain _ rfl rfl)
    | ro k => exact .inl (plain _ rfl rfl)) h
/-! ### texts -/
def fFmt : D → Option D
  | .str y => if y.length ≤ 16777216 then some (.str y) else none
  | .int i => if i.natAbs < 2 ^ 1900 then some (.str (toString i)) else none
  | _ => none
theorem snd_fmt (ha : SndH C X a ma) : SndH C X (.FormattedValue a (-1) none pos) (mOp1 fFmt ma) := fun W tk => (pe_fmt (ha W tk)).imp fun σ H Q h => op1_reading (r := fun x H1 Q => (∃ y : Str, x = .str y ∧ y.length ≤ sizeLine ∧ Q (.str y) H1) ∨ ∃ i : Int, x = .int i ∧ i.natAbs.log2 < 1920 ∧ Q (.str (toString i)) H1) (fun P H x z v Q s b e q => by
    cases x with
    | str y =>
      have e : (if y.length ≤ 16777216 then some (D.str y) else none) = some z := e
      by_cases hc : y.length ≤ 16777216
      · rw [if_pos hc] at e
        cases e
        exact .inl ⟨y, (show Rep C P (.str y) v from b).str, by rw [sizeLine_eq]; exact hc, q P H _ Grow.refl Rep.ofStr⟩
      · rw [if_neg hc] at e; cases e
    | int y =>
      have e : (if y.natAbs < 2 ^ 1900 then some (D.str (toString y)) else none) = some z := e
      by_cases hc : y.natAbs < 2 ^ 1900
      · rw [if_pos hc] at e
        cases e
        exact .inr ⟨y, (show Rep C P (.int y) v from b).int, Nat.lt_trans (PySem.Flt.log2_lt_of (by omega) hc) (by omega), q P H _ Grow.refl Rep.ofStr⟩
      · rw [if_neg hc] at e; cases e
    | _ => cases e) h
def jsD (acc : Str) : Hd → Option Str
  | .d (.str y) => if (acc ++ y).length ≤ 16777216 then some (acc ++ y) else none
  | _ => none
def mJs : List (M Hd) → Str → M Hd
  | [], acc => M.pure (.d (.str acc))
  | m :: ms, acc => m.bind fun h => (M.lift (jsD acc h)).bind fun acc' => mJs ms acc'
def SndJ (C : Kx) (X : Cx) (es : List PySem.Expr) (ms : List (M Hd)) : Prop := ∀ W, Takes X W → PJ X es (ms.map (rdH C W))
theorem sndJ_nil : SndJ C X [] [] := fun W tk => .nil
theorem sndJ_cons {ns : List (M Hd)} (ha : SndH C X a ma) (hr : SndJ C X es ns) : SndJ C X (a :: es) (ma :: ns) := fun W tk => .cons (ha W tk) (hr W tk)
theorem js_reading {W : WX} {σ : L2.St} {Q : VK} : ∀ {ns : List (M Hd)} {acc : Str} {F : Fc} {ρ : En} {P H : Hp}, Rel C F ρ P σ H → Hold C F W σ P (RH C σ) (mJs ns acc ρ) Q → tJs (ns.map (rdH C W)) acc σ H (fun out H1 => Q (.str out) H1)
  | [], acc, F, ρ, P, H, R, q => q P H _ (Same.refl _) R (show Rep C P (.str acc) _ from Rep.ofStr)
  | m :: ns, acc, F, ρ, P, H, R, q => by
    unfold mJs at q
    refine ⟨F, ρ, P, R, (Hold.bind (R1 := RH C σ) q).imp ?_⟩
    rintro v H1 ⟨h1, ρ1, P1, s1, R1, r1, q1⟩
    obtain ⟨acc', ea, q2⟩ := Hold.lift q1
    cases h1 with
    | sl i => cases ea
    | d x =>
      cases x with
      | str y =>
        have ea : (if (acc ++ y).length ≤ 16777216 then some (acc ++ y) else none) = some acc' := ea
        by_cases hc : (acc ++ y).length ≤ 16777216
        · rw [if_pos hc] at ea
          cases ea
          exact ⟨y, (show Rep C P1 (.str y) v from r1).str, by rw [sizeLine_eq]; exact hc, js_reading R1 q2⟩
        · rw [if_neg hc] at ea; cases ea
      | _ => cases ea
theorem snd_joined {v1 v2 : PySem.Expr} {rest : List PySem.Expr} {ns : List (M Hd)} (h : SndJ C X (v1 :: v2 :: rest) ns) : SndH C X (.JoinedStr (v1 :: v2 :: rest) pos) (mJs ns Str.empty) := fun W tk => (pe_joined (h W tk)).imp fun σ H Q ⟨F, ρ, P, R, q⟩ => js_reading R q
theorem snd_joined1 (ha : SndH C X a ma) : SndH C X (.JoinedStr [a] pos) ma := fun W tk => pe_joined1 (ha W tk)
/-! ### raise X(..) -/
theorem cons_nil_len {ma : M Hd} {ρ ρ' : En} {hs : List Hd} (h : mCons ma mNil ρ = .ok hs ρ') : hs.length = 1 := by
  unfold mCons M.bind mNil M.pure at h
  cases e : ma ρ with
  | ok x ρ1 => rw [e] at h; cases h; rfl
  | exc c ρ1 => rw [e] at h; cases h
  | stuck => rw [e] at h; cases h
structure KExc (C : Kx) (X : Cx) (k : Nat) (bmB : List Value) (newId : String) : Prop where
  q : PySem.W.excIn X.K (C.cls k) bmB newId = true
  kC : PySem.W.keepIn X.K (.ref (C.cls k)) = true
  r : Raises X (.ref (C.cls k))
theorem sndS_raise1 {k : Nat} {bmB : List Value} {B newId initId : String} {x : Str} {p pos' : Pos} (Fb : ExcBaseFacts B newId initId bmB) (kx : KExc C X k bmB newId) (gC : X.mg x = some (.ref (C.cls k))) (hg : Gl X x) (hc : X.calm = true) (ha : SndH C X e ma)
    (hdb : (x == ("__debug__" : Str)) = false) (he : starEach [e] X.env = (false, eval e X.env) :: starEach [] X.env) (hpl : (backTo pos (starEach [] X.env)).any (·.1) = false) : SndS C X (.Raise (some (.Call (.Name x p) [e] [] pos)) none pos') (mRaise k (mCons ma mNil)) :=
  sndS_raise hc (sndA_cons ha sndA_nil he) (by simp) (fun {t} hp => pmk_ownA Fb kx.q gC kx.kC kx.r hg hp hdb he hpl) fun W σ H Q ⟨F, ρ, P, R, q⟩ => ⟨F, ρ, P, R, by
    cases em : mCons ma mNil ρ with
    | ok hs ρ' =>
      rw [em] at q
      refine fun P' H' b s' R' r' => ⟨?_, q P' H' b s' R' r'⟩
      have h1 := cons_nil_len em
      have h2 := Hds.length (show Hds C P' σ hs b from r')
      omega
    | exc c ρ' => rw [em] at q; exact q
    | stuck => rw [em] at q; exact q⟩
/-! ### slices -/
def partD : Option (M Hd) → M (Option Int)
  | none => M.pure none
  | some m => m.bind fun h => M.lift (match h with | .d (.int i) => some (some i) | _ => none)
abbrev RO : Option Int → Option Int → En → Hp → Hp → Prop := fun a b _ _ _ => a = b
def rdO (C : Kx) (W : WX) (m : M (Option Int)) : TO := fun σ H Q => ∃ F ρ P, Rel C F ρ P σ H ∧ Hold C F W σ P RO (m ρ) Q
def SndO (C : Kx) (X : Cx) (e : Option PySem.Expr) (m : Option (M Hd)) : Prop := ∀ W, Takes X W → PO X e (rdO C W (partD m))
theorem _root_.L2.PO.imp {X : Cx} {e : Option PySem.Expr} {t t' : TO} (h : PO X e t) (f : ∀ σ H Q, t' σ H Q → t σ H Q) : PO X e t' := ⟨fun pins s σ H Q I q => h.run pins s σ H Q I (f _ _ _ q)⟩
theorem sndO_none : SndO C X none none := fun W tk => po_none.imp fun σ H Q ⟨F, ρ, P, R, q⟩ => q P H none (Same.refl _) R rfl
theorem sndO_some (ha : SndH C X a ma) : SndO C X (some a) (some ma) := fun W tk => (po_some (ha W tk)).imp fun σ H Q ⟨F, ρ, P, R, q⟩ => by
  refine ⟨F, ρ, P, R, (Hold.bind (R1 := RH C σ) q).imp ?_⟩
  rintro v H1 ⟨h1, ρ1, P1, s1, R1, r1, q1⟩
  obtain ⟨x, ex, q2⟩ := Hold.liftE q1
  cases h1 with
  | sl i => cases ex
  | d y =>
    cases y with
    | int i => cases ex; exact ⟨i, (show Rep C P1 (.int i) v from r1).int, q2 P1 H1 _ (Same.refl _) R1 rfl⟩
    | _ => cases ex
def cutD (xs : List D) (lo hi : Option Int) : List D := (xs.drop (HT.sIx xs.length 0 lo)).take (HT.sIx xs.length xs.length hi - HT.sIx xs.length 0 lo)
theorem cut_reps {P : Hp} {xs : List D} {vs : List V} (h : Reps C P xs vs) (lo hi : Option Int) : Reps C P (cutD xs lo hi) (cutV vs lo hi) := by
  unfold cutD cutV
  rw [h.length]
  exact (h.drop _).take _
/-- a list's slice: a new list -/
def mSlF (m : M Hd) (lo hi : Option (M Hd)) : M (List D) := m.bind fun h => (partD lo).bind fun l => (partD hi).bind fun u => (view h).bind fun x => M.lift ((lsts x).map fun xs => cutD xs l u)
theorem sndF_sl {lo hi : Option PySem.Expr} {ml mh : Option (M Hd)} {p2 : Pos} (hK : X.K = C.K) (ha : SndH C X a ma) (hl : SndO C X lo ml) (hu : SndO C X hi mh) : SndF C X (.Subscript a (.Slice lo hi none p2) pos) (mSlF ma ml mh) := fun W tk => (pe_slice sl_list (ha W tk) (hl W tk) (hu W tk)).imp fun σ H Q ⟨F, ρ, P, R, q⟩ => by
  refine ⟨F, ρ, P, R, (Hold.bind (R1 := RH C σ) q).imp ?_⟩
  rintro v H1 ⟨h1, ρ1, P1, s1, R1, r1, q1⟩
  refine ⟨F, ρ1, P1, R1, (Hold.bind (R1 := RO) q1).imp ?_⟩
  rintro l0 H2 ⟨l, ρ2, P2, s2, R2, el, q2⟩
  obtain rfl : l = l0 := el
  refine ⟨F, ρ2, P2, R2, (Hold.bind (R1 := RO) q2).imp ?_⟩
  rintro u0 H3 ⟨u, ρ3, P3, s3, R3, eu, q3⟩
  obtain rfl : u = u0 := eu
  obtain ⟨x, b, q4⟩ := Hold.view R3 (r1.mono (s2.trans s3)) q3
  obtain ⟨zs, ez, q5⟩ := Hold.liftE q4
  cases e1 : lsts x with
  | none => rw [e1] at ez; cases ez
  | some xs =>
    rw [e1] at ez
    cases ez
    obtain ⟨p, vs, rfl, h1, h2, h3⟩ := lsts_ok b e1
    refine ⟨p, vs, rfl, by rw [hK]; exact h1, fun w hw => ?_⟩
    obtain ⟨R', f'⟩ := R3.fresh hw (Nat.le_trans (cutV_length vs l u) h2) (cut_reps h3 l u)
    exact q5 P3 _ _ (Same.refl _) R' f'
/-- a tuple's slice -/
def tupsD : D → Option (List D)
  | .tup xs => some xs
  | _ => none
def mSlT (m : M Hd) (lo hi : Option (M Hd)) : M Hd := m.bind fun h => (partD lo).bind fun l => (partD hi).bind fun u => (view h).bind fun x => (M.lift (tupsD x)).bind fun xs => M.pure (.d (.tup (cutD xs l u)))
theorem cut_all {α : Type} {xs : List α} {l u : Option Int} (h : HT.sIx xs.length 0 l = 0 ∧ HT.sIx xs.length xs.length u = xs.length) : (xs.drop (HT.sIx xs.length 0 l)).take (HT.sIx xs.length xs.length u - HT.sIx xs.length 0 l) = xs := by
  rw [h.1, h.2]
  simp
theorem snd_slT {lo hi : Option PySem.Expr} {ml mh : Option (M Hd)} {p2 : Pos} (hK : X.K = C.K) (ha : SndH C X a ma) (hl : SndO C X lo ml) (hu : SndO C X hi mh) : SndH C X (.Subscript a (.Slice lo hi none p2) pos) (mSlT ma ml mh) := fun W tk => (pe_slice sl_tupA (ha W tk) (hl W tk) (hu W tk)).imp fun σ H Q ⟨F, ρ, P, R, q⟩ => by
  refine ⟨F, ρ, P, R, (Hold.bind (R1 := RH C σ) q).imp ?_⟩
  rintro v H1 ⟨h1, ρ1, P1, s1, R1, r1, q1⟩
  refine ⟨F, ρ1, P1, R1, (Hold.bind (R1 := RO) q1).imp ?_⟩
  rintro l0 H2 ⟨l, ρ2, P2, s2, R2, el, q2⟩
  obtain rfl : l = l0 := el
  refine ⟨F, ρ2, P2, R2, (Hold.bind (R1 := RO) q2).imp ?_⟩
  rintro u0 H3 ⟨u, ρ3, P3, s3, R3, eu, q3⟩
  obtain rfl : u = u0 := eu
  obtain ⟨x, b, q4⟩ := Hold.view R3 (r1.mono (s2.trans s3)) q3
  obtain ⟨xs, ex, q5⟩ := Hold.lift q4
  cases x with
  | tup ys =>
    obtain rfl : ys = xs := Option.some.inj ex
    have b : Rep C P3 (.tup ys) v := b
    have b0 := b
    rw [Rep] at b
    obtain ⟨p, vs, rfl, h1, h2, h3⟩ := b
    refine ⟨p, vs, rfl, by rw [hK]; exact Same.seqT R3.sub h1, fun w => ?_, fun w t ht => ?_⟩
    · have e : cutD ys l u = ys := cut_all (by rw [h3.length]; exact w)
      rw [e] at q5
      exact q5 P3 H3 _ (Same.refl _) R3 b0
    · obtain ⟨R', s'⟩ := R3.alloc (.tup (cutV vs l u)) ht
      refine q5 _ _ _ s' R' (show Rep C _ (.tup _) _ from ?_)
      rw [Rep]
      exact ⟨t, _, rfl, SqT.of upd_same, Nat.le_trans (cutV_length vs l u) h2, (cut_reps h3 l u).mono s'⟩
  | _ => cases ex
end
end VL

set_option Elab.async false
set_option linter.all false
set_option maxRecDepth 100000
set_option maxHeartbeats 4000000
/-! VLS: sorted(set(xs)), xs a list or tuple of ints. The first theorem: turned from the kit's rule for tuples. -/
namespace VL
open PySem PySem.Spec PyProof.Rows L2
section
variable {P : Program} {w : World} {A : Around} {E : Value → Shared → Prop} {s : Shared}
set_option maxRecDepth 100000 in
set_option maxHeartbeats 3200000 in
theorem call_set_listI {l : Addr} {items : Array Value} (ns : List Int) {Q : Value → Shared → Prop} (hh : A.handled = none) (hl : s.heap.IsList l items) (hit : IntsAre items.toList ns) (hb : ns.length + 1 < scanBound)
    (h : ∀ (h' : Heap) (tk c : Nat), SetR w h' s.heap.objs.size (fun j => decide (j ∈ ns)) c → c ≤ ns.length → (∀ b o, s.heap.get? b = some o → h'.get? b = some o) → Q (.ref s.heap.objs.size) { s with heap := h', toks := tk }) :
    wpAny (model P w) A (call (.type "set") [.ref l]) Q E s := by
  have hisz : items.size = ns.length := by
    have q := IntsAre.length hit
    rw [Array.length_toList] at q
    exact q
  obtain ⟨c, tl, hmro⟩ := F.called_set.mro
  have hmade := F.called_set.made
  have hsub := F.called_set.sub
  refine wpAny_call (codeAny_of_tree ?_)
  show wpAny _ _ (callAny (.type "set") _) _ _ _
  refine wpAny_pure ⟨Code.quiet_builtin _ (by decide +kernel), codeAny_builtin F.entry_type_call ?_⟩
  rw [Around.under_plain (weight_type_call_type "set" [.ref l] []) rfl]
  have h1 := F.called_set.notType
  have h2 := F.called_set.canCreate
  have hct := F.typeCall_set_1 (.ref l)
  repeat (any_goals (first | assumption | wp_step))

  refine codeAny_mono (code_set_led1 (.ref l) (E := E) (Q₁ := fun obj s₁ => obj = .ref s.heap.objs.size ∧ s₁ = { s with heap := s.heap.push { cls := .type "set", dict := none, data := .set #[] 0 (.fresh 0 0 (!w.params.followText "set-order")) } }) ⟨rfl, rfl⟩) fun r s₁ hr => ?_
  cases r with
  | error e => exact hr
  | ok fl =>
    cases fl with
    | ret obj =>
      obtain ⟨rfl, rfl⟩ := hr
      have hS : (s.heap.push { cls := .type "set", dict := none, data := .set #[] 0 (.fresh 0 0 (!w.params.followText "set-order")) }).get? s.heap.objs.size = some { cls := .type "set", dict := none, data := .set #[] 0 (.fresh 0 0 (!w.params.followText "set-order")) } := Heap.get?_push_size _ rfl
      have hT : Shared.TypeIs { s with heap := s.heap.push { cls := .type "set", dict := none, data := .set #[] 0 (.fresh 0 0 (!w.params.followText "set-order")) } } (.ref s.heap.objs.size) "set" := ⟨_, hS, rfl⟩
      have hli := F.called_set.init.lookup
      have hbi := F.called_set.init.bind (.ref s.heap.objs.size)
      repeat (any_goals (first | assumption | wp_step))

      refine codeAny_mono (codeAny_call_builtin (R := wants (fun r s₂ => r = .none ∧ ∃ h' tk c, s₂ = { s with heap := h', toks := tk } ∧ SetR w h' s.heap.objs.size (fun j => decide (j ∈ ns)) c ∧ c ≤ ns.length ∧
          (∀ b o, s.heap.get? b = some o → h'.get? b = some o)) E) F.called_set.init.plain F.entry_set_init (check_set_init_1 hT ?_)) fun r₂ s₂ hr₂ => ?_
      · obtain ⟨ol, hol, hcl, nl, hdl⟩ := hl
        obtain ⟨ocls, odict, odata, oslots⟩ := ol
        simp only at hcl hdl
        subst hcl; subst hdl
        have hol' : (s.heap.push { cls := .type "set", dict := none, data := .set #[] 0 (.fresh 0 0 (!w.params.followText "set-order")) }).get? l = some { cls := .type "list", dict := odict, data := .seq items nl, slots := oslots } := Heap.get?_push_of_some _ hol
        have hsls := F.sub_list_set
        have hslf := F.sub_list_frozenset
        have hne : (Value.type "list" == Value.type "dict") = false := by decide
        have hl1 : (s.heap.push { cls := .type "set", dict := none, data := .set #[] 0 (.fresh 0 0 (!w.params.followText "set-order")) }).IsList l items := ⟨_, hol', rfl, nl, rfl⟩
        unfold Builtin.«set.__init__» noKeywords Builtin.Frozenset.updateFrom
        generalize hPI : pyIter = PI
        wp_walk
        subst hPI

        refine wpAny_pyIter_list hl1 ?_
        refine wpAny_bind (wpAny_runValue ?_)
        have hlS : l < s.heap.objs.size := Heap.lt_size hol
        have hh3 : A.in1.in1.in1.handled = none := by simp [hh]
        have hz1 : (s.heap.push { cls := .type "set", dict := none, data := .set #[] 0 (.fresh 0 0 (!w.params.followText "set-order")) }).objs.size = s.heap.objs.size + 1 := Heap.size_push ..
        have hneI : l ≠ (s.heap.push { cls := .type "set", dict := none, data := .set #[] 0 (.fresh 0 0 (!w.params.followText "set-order")) }).objs.size := by
          rw [Heap.size_push]; exact Nat.ne_of_lt (Nat.lt_succ_of_lt hlS)
        have hSf : s.heap.objs.size ∉ [(s.heap.push { cls := .type "set", dict := none, data := .set #[] 0 (.fresh 0 0 (!w.params.followText "set-order")) }).objs.size, l] := by
          rw [Heap.size_push]; simp only [List.mem_cons, List.mem_singleton, List.not_mem_nil, or_false, not_or]
          exact ⟨Nat.ne_of_lt (Nat.lt_succ_self _), Nat.ne_of_gt hlS⟩
        have hval : ∀ (i : Nat) (v : Value), items[i]? = some v → ∃ k t, ns[i]? = some k ∧ v = .int k t := fun i v hv => by
          have hi : i < ns.length := by rw [← hisz]; exact (Array.getElem?_eq_some_iff.mp hv).1
          obtain ⟨t, e⟩ := PyProof.Rows.IntsAre.int_at hit i v (by rw [Array.getElem?_toList]; exact hv)
          refine ⟨ns[i], t, List.getElem?_eq_getElem hi, ?_⟩
          rw [e, List.getD_eq_getElem?_getD, List.getElem?_eq_getElem hi] <;> rfl
        refine set_update_ints ((Walks.list hh3 _ l hneI items).toS) s.heap.objs.size
          hSf ns hisz hb hval (items.size - 0) 0 _ (by omega) (Nat.zero_le _)
          ⟨⟨_, Heap.get?_push_size _ rfl, rfl, rfl⟩, (hl1.push _)⟩ ?hS0 ?hR
        case hS0 =>
          have hget : ((s.heap.push { cls := .type "set", dict := none, data := .set #[] 0 (.fresh 0 0 (!w.params.followText "set-order")) }).push { cls := .type "list_iterator", data := .fields #[.ref l, .int 0 0] }).get? s.heap.objs.size
              = some { cls := .type "set", dict := none, data := .set #[] 0 (.fresh 0 0 (!w.params.followText "set-order")) } := Heap.get?_push_of_some _ hS
          exact ⟨0, Nat.le_refl 0, setR_new_at hget⟩
        case hR =>
          intro s' c' hm hc' hS'
          obtain ⟨h', g2, d', tk', os'⟩ := s'
          have eg : g2 = s.gens := hm.gens
          have ed : d' = s.drawn := hm.drawn
          have eo : os' = s.os := hm.os
          subst eg; subst ed; subst eo
          show wpAny _ _ _ _ _ _
          refine wpAny_pure ?_
          show wpAny _ _ (ret Value.none) _ _ _
          rw [hisz] at hc'
          refine wpAny_pure ⟨rfl, h', tk', c', rfl, hS', hc', fun b o e => ?_⟩
          have hb0 : b < s.heap.objs.size := Heap.lt_size e
          have hb1 : b ≠ s.heap.objs.size := Nat.ne_of_lt hb0
          have hb2 : b ≠ (s.heap.push { cls := .type "set", dict := none, data := .set #[] 0 (.fresh 0 0 (!w.params.followText "set-order")) }).objs.size := by
            rw [Heap.size_push]; exact Nat.ne_of_lt (Nat.lt_succ_of_lt hb0)
          exact hm.heap b o (by simp only [List.mem_cons, List.mem_singleton, List.not_mem_nil, or_false, not_or]; exact ⟨hb1, hb2⟩) (Heap.get?_push_of_some _ (Heap.get?_push_of_some _ e))

      · cases r₂ with
        | error e => exact hr₂
        | ok fl₂ =>
          cases fl₂ with
          | ret r =>
            obtain ⟨rfl, h', tk, c', rfl, hS', hc', hk'⟩ := hr₂
            repeat (any_goals (first | assumption | wp_step))
            exact h _ _ _ hS' hc' hk'
          | _ => exact hr₂.elim
    | _ => exact hr.elim

end
/-- set(xs) -/
def rSetI (K : PySem.W.Frag) (w : World) : List V → Hp → VK → Prop := fun vs H Q => ∃ (a : Addr) (ns : List Int), vs = [V.ref a] ∧ (SqL K H a (ns.map V.int) ∨ SqT K H a (ns.map V.int)) ∧ ns.length < 64 ∧
  ∀ p c, H p = none → c ≤ ns.length → Q (.ref p) (upd H p (SetO w p (fun j => decide (j ∈ ns)) c))
section
variable {X : Cx}
theorem cr_setI (hc : X.calm = true) : CallR X (.type "set") (rSetI X.K X.w) := by
  intro pins s σ H vs us Q I r h
  obtain ⟨a, ns, rfl, hs, h64, q⟩ := h
  rw [Vals.ref1 r]
  have fin : ∀ (h' : Heap) (tk c : Nat), SetR X.w h' s.heap.objs.size (fun j => decide (j ∈ ns)) c → c ≤ ns.length → (∀ b o, s.heap.get? b = some o → h'.get? b = some o) → EP X pins σ Q (.ref s.heap.objs.size) { s with heap := h', toks := tk } := fun h' tk c hR hc k => by
    have hn : H s.heap.objs.size = none := I.hok.fresh (Nat.le_refl _)
    exact ⟨.ref s.heap.objs.size, _, I.laid (t' := tk) k (Nat.le_refl _) (setO_new hR), rfl, q _ c hn hc⟩
  have hb : ns.length + 1 < scanBound := Nat.lt_of_lt_of_le (by omega : ns.length + 1 < 66) (by decide)
  rcases hs with hs | hs
  · obtain ⟨its, rv, hl, _⟩ := I.list hs
    exact call_set_listI ns (I.ok.hd hc) hl.isList rv.ints hb fin
  · obtain ⟨its, rv, hl, _⟩ := I.tuple hs
    exact call_set_tupI ns (I.ok.hd hc) hl rv.ints hb fin
end
end VL

set_option Elab.async false
set_option linter.all false
set_option maxRecDepth 100000
set_option maxHeartbeats 4000000
/-! VL11: sorted(set(..)), all, any, classmethods, cls(..). -/
namespace VL
open PySem PySem.Spec L2
/-! ### strictly rising lists -/
def insU (k : Int) : List Int → List Int
  | [] => [k]
  | x :: r => if k < x then k :: x :: r else if k = x then x :: r else x :: insU k r
def sortU (l : List Int) : List Int := l.foldr insU []
theorem insU_mem {k j : Int} : ∀ {l : List Int}, j ∈ insU k l ↔ j = k ∨ j ∈ l
  | [] => by simp [insU]
  | x :: r => by
    unfold insU
    by_cases h1 : k < x
    · rw [if_pos h1]; simp
    · rw [if_neg h1]
      by_cases h2 : k = x
      · rw [if_pos h2, h2]; simp
      · rw [if_neg h2, List.mem_cons, insU_mem (l := r), List.mem_cons]
        constructor
        · rintro (h | h | h)
          · exact .inr (.inl h)
          · exact .inl h
          · exact .inr (.inr h)
        · rintro (h | h | h)
          · exact .inr (.inl h)
          · exact .inl h
          · exact .inr (.inr h)
theorem insU_pw {k : Int} : ∀ {l : List Int}, l.Pairwise (· < ·) → (insU k l).Pairwise (· < ·)
  | [], _ => by simp [insU]
  | x :: r, h => by
    unfold insU
    rw [List.pairwise_cons] at h
    by_cases h1 : k < x
    · rw [if_pos h1]
      exact List.pairwise_cons.mpr ⟨fun y hy => by
        rcases List.mem_cons.mp hy with rfl | hy
        · exact h1
        · have := h.1 y hy; omega, List.pairwise_cons.mpr h⟩
    · rw [if_neg h1]
      by_cases h2 : k = x
      · rw [if_pos h2]; exact List.pairwise_cons.mpr h
      · rw [if_neg h2]
        refine List.pairwise_cons.mpr ⟨fun y hy => ?_, insU_pw h.2⟩
        rcases insU_mem.mp hy with rfl | hy
        · omega
        · exact h.1 y hy
theorem sortU_mem {j : Int} : ∀ {l : List Int}, j ∈ sortU l ↔ j ∈ l
  | [] => by simp [sortU]
  | x :: r => by
    show j ∈ insU x (sortU r) ↔ _
    rw [insU_mem, sortU_mem (l := r), List.mem_cons]
theorem sortU_pw : ∀ (l : List Int), (sortU l).Pairwise (· < ·)
  | [] => .nil
  | x :: r => insU_pw (sortU_pw r)
theorem pw_ext : ∀ {l m : List Int}, l.Pairwise (· < ·) → m.Pairwise (· < ·) → (∀ j, j ∈ l ↔ j ∈ m) → l = m
  | [], [], _, _, _ => rfl
  | [], y :: m, _, _, h => by have := (h y).mpr (List.mem_cons_self ..); cases this
  | x :: l, [], _, _, h => by have := (h x).mp (List.mem_cons_self ..); cases this
  | x :: l, y :: m, hl, hm, h => by
    rw [List.pairwise_cons] at hl hm
    have e : x = y := by
      rcases List.mem_cons.mp ((h x).mp (List.mem_cons_self ..)) with e | hx
      · exact e
      · rcases List.mem_cons.mp ((h y).mpr (List.mem_cons_self ..)) with e | hy
        · exact e.symm
        · have h1 := hl.1 y hy
          have h2 := hm.1 x hx
          omega
    subst e
    rw [pw_ext hl.2 hm.2 fun j => ?_]
    constructor
    · intro hj
      rcases List.mem_cons.mp ((h j).mp (List.mem_cons_of_mem _ hj)) with e | hj'
      · have := hl.1 j hj; omega
      · exact hj'
    · intro hj
      rcases List.mem_cons.mp ((h j).mpr (List.mem_cons_of_mem _ hj)) with e | hj'
      · have := hm.1 j hj; omega
      · exact hj'
section
variable {C : Kx} {F : Fc} {X : Cx} {e a b c : PySem.Expr} {es : List PySem.Expr} {pos : Pos} {ma mb : M Hd} {ms : M (List Hd)}
def fSortedSet (x : D) : Option (List D) := ((items x).bind intL).bind fun ns => if ns.length < 64 then some ((sortU ns).map .int) else none
def mSortedSet (m : M Hd) : M (List D) := m.bind fun h => (view h).bind fun x => M.lift (fSortedSet x)
theorem sndF_sortedSet {p q pos' : Pos} (hc : X.calm = true) (hK : X.K = C.K) (hg : Gl X "sorted") (hm : X.mg "sorted" = none) (hg' : Gl X "set") (hm' : X.mg "set" = none) (ha : SndH C X a ma)
    (he : starEach [a] X.env = (false, eval a X.env) :: starEach [] X.env) (he' : starEach [PySem.Expr.Call (.Name "set" q) [a] [] pos'] X.env = (false, eval (.Call (.Name "set" q) [a] [] pos') X.env) :: starEach [] X.env)
    (hpl : (backTo pos (starEach [] X.env)).any (·.1) = false) (hpl' : (backTo pos' (starEach [] X.env)).any (·.1) = false) :
    SndF C X (.Call (.Name "sorted" p) [.Call (.Name "set" q) [a] [] pos'] [] pos) (mSortedSet ma) := fun W tk =>
  (pe_callB (cr_sortedSet hc) hg hm rfl (pa_cons (pe_callTy (cr_setI hc) hg' hm' rfl (pa_cons (ha W tk) pa_nil he) (by decide) (by decide) he hpl') pa_nil he') (by decide) (by decide) he' hpl).imp fun σ H Q ⟨F, ρ, P, R, q⟩ => by
    refine ⟨F, ρ, P, R, (Hold.bind (R1 := RH C σ) q).imp ?_⟩
    rintro v H1 ⟨h1, ρ1, P1, s1, R1, r1, q1⟩
    obtain ⟨x, b, q2⟩ := Hold.view R1 r1 q1
    obtain ⟨zs, ez, q3⟩ := Hold.liftE q2
    unfold fSortedSet at ez
    cases e1 : items x with
    | none => rw [e1] at ez; cases ez
    | some ys =>
      rw [e1, Option.bind_some] at ez
      cases e2 : intL ys with
      | none => rw [e2] at ez; cases ez
      | some ns =>
        rw [e2, Option.bind_some] at ez
        by_cases h64 : ns.length < 64
        · rw [if_pos h64] at ez
          cases ez
          obtain ⟨p0, vs, rfl, hs, _, hr⟩ := items_ok R1.sub b e1
          have := intL_eq e2
          subst this
          rw [hr.ints] at hs
          refine ⟨p0, ns, rfl, by rw [hK]; exact hs, h64, fun p c hp hcl => ⟨p, _, c, rfl, upd_same, by omega, fun ms l hpw hmem hlen hl => ?_⟩⟩
          have e3 : ms = sortU ns := pw_ext hpw (sortU_pw ns) fun j => by rw [hmem j, sortU_mem]; simp
          have R2 := R1.lay (SetO X.w p (fun j => decide (j ∈ ns)) c) hp
          obtain ⟨R', f'⟩ := R2.fresh (zs := ms.map .int) hl (us := ms.map V.int) (by rw [List.length_map, hlen, sizeLine_eq]; omega) (Reps.ofInts ms)
          rw [e3] at R' f'
          rw [e3]
          exact q3 P1 _ _ (Same.refl _) R' f'
        · rw [if_neg h64] at ez; cases ez
end
end VL

set_option Elab.async false
set_option linter.all false
set_option maxRecDepth 100000
set_option maxHeartbeats 4000000
/-! VL12: all, any, classmethods, cls(..), defaults. -/
namespace VL
open PySem PySem.Spec L2
section
variable {C : Kx} {F : Fc} {X : Cx} {e a b c : PySem.Expr} {es : List PySem.Expr} {pos : Pos} {ma mb : M Hd} {ms : M (List Hd)}
def blsL : List D → Option (List Bool)
  | [] => some []
  | .bl i :: r => (blsL r).map (i :: ·)
  | _ :: _ => none
theorem blsL_eq : ∀ {xs : List D} {ns : List Bool}, blsL xs = some ns → xs = ns.map D.bl
  | [], ns, e => by cases e; rfl
  | .bl i :: r, ns, e => by
    have e : (blsL r).map (i :: ·) = some ns := e
    cases q : blsL r with
    | none => rw [q] at e; cases e
    | some ms => rw [q] at e; cases e; rw [blsL_eq q]; rfl
  | .non :: _, _, e => by cases e
  | .int _ :: _, _, e => by cases e
  | .str _ :: _, _, e => by cases e
  | .tup _ :: _, _, e => by cases e
  | .lst _ :: _, _, e => by cases e
  | .ro _ :: _, _, e => by cases e
  | .obj _ _ :: _, _, e => by cases e
  | .cl _ :: _, _, e => by cases e
theorem reps_bls {P : Hp} : ∀ {ns : List Bool} {vs : List V}, Reps C P (ns.map D.bl) vs → vs = ns.map V.bl
  | [], vs, h => by simpa [Reps] using h
  | n :: ns, vs, h => by
    rw [List.map_cons, Reps] at h
    obtain ⟨v, r, rfl, h1, h2⟩ := h
    rw [Rep] at h1
    rw [h1, reps_bls h2]; rfl
def blsOf (d : D) : Option (List Bool) := (lsts d).bind blsL
theorem blsOf_ok {P H : Hp} {y : D} {u : V} {ns : List Bool} (h : RepB C P H y u) (e : blsOf y = some ns) : ∃ p, u = .ref p ∧ SqL C.K H p (ns.map V.bl) := by
  unfold blsOf at e
  cases e1 : lsts y with
  | none => rw [e1] at e; cases e
  | some ys =>
    rw [e1] at e
    obtain ⟨p, vs, rfl, h1, _, h2⟩ := lsts_ok h e1
    have := blsL_eq (show blsL ys = some ns from e)
    subst this
    rw [reps_bls h2] at h1
    exact ⟨p, rfl, h1⟩
def fAll : List D → Option D
  | [x] => (blsOf x).map fun bs => .bl (bs.all id)
  | _ => none
def fAny : List D → Option D
  | [x] => (blsOf x).map fun bs => .bl (bs.any id)
  | _ => none
theorem o_all : OpN C (rAll C.K) fAll := fun P H xs z vs Q s b e q => by
  match xs, e with
  | [x], e =>
    obtain ⟨v, rfl, b1⟩ := b.one
    have e : ((blsOf x).map fun ns => D.bl (ns.all id)) = some z := e
    cases e1 : blsOf x with
    | none => rw [e1] at e; cases e
    | some ns =>
      rw [e1] at e
      cases e
      obtain ⟨p, rfl, h⟩ := blsOf_ok b1 e1
      exact ⟨p, ns, rfl, h, q P H _ Grow.refl Rep.ofBl⟩
theorem o_any : OpN C (rAny C.K) fAny := fun P H xs z vs Q s b e q => by
  match xs, e with
  | [x], e =>
    obtain ⟨v, rfl, b1⟩ := b.one
    have e : ((blsOf x).map fun ns => D.bl (ns.any id)) = some z := e
    cases e1 : blsOf x with
    | none => rw [e1] at e; cases e
    | some ns =>
      rw [e1] at e
      cases e
      obtain ⟨p, rfl, h⟩ := blsOf_ok b1 e1
      exact ⟨p, ns, rfl, h, q P H _ Grow.refl Rep.ofBl⟩
/-! ### classmethods -/
def tCMethS (C : Addr) (sp : Sp) (E : L2.St → XK) (ta : TE) (t : TA) : TE := fun σ H Q => ta σ H fun x H1 => x = .ref C ∧ t σ H1 fun vs H2 => sp (.ref C :: vs) H2 Q (E σ)
theorem run_cmS {CX : CXT} {k : Nat} {q g Ca : Addr} {sp : Sp} {E : L2.St → XK} {Q : VK} {us : List Value} {vs : List V} {pins : List (Addr × Obj)} {σ : L2.St} {H : Hp} {s : Shared} (F : FnR X.prog X.w X.K X.mg X.base CX k g sp) (hr : Room k X.A) (hx : PassesAt CX X σ (E σ)) (I : Inv X ((q, PySem.W.methodObj (.ref g) (.ref Ca)) :: pins) σ H s)
    (r : Vals vs us) (h : sp (.ref Ca :: vs) H Q (E σ)) : wpAny (model X.prog X.w) X.A (call (.ref q) us) (EP X pins σ Q) X.xe s := by
  have z : wpAny (model X.prog X.w) X.A (call (.ref q) us) (EP X ((q, PySem.W.methodObj (.ref g) (.ref Ca)) :: pins) σ Q) X.xe s := by
    refine wpAny_call (PySem.W.method_call (ClX.pin_at I) ?_)
    refine codeAny_mono (F X.A X.stack s H (.ref Ca :: us) (.ref Ca :: vs) Q (E σ) hr I.env0 (.cons rfl r) h) fun r s' hq => ?_
    cases r with
    | error e => exact hx _ H s e s' I hq
    | ok fl =>
      cases fl with
      | ret u => exact I.after hq
      | next => exact False.elim hq
      | brk => exact False.elim hq
      | cont => exact False.elim hq
  exact thn z fun _ _ y => ClX.unpinE y
theorem pe_cmethS {CX : CXT} {k : Nat} {o : PySem.Expr} {m : Str} {apos : Pos} {p g Ca : Addr} {mc : Value} {sp : Sp} {E : L2.St → XK} {ta : TE} {t : TA} {pl : Sem Bool} (he : PE X o ta) (r : ClX.CRead X.K Ca mc) (c : ClX.CMet X.K Ca mc m p g) (F : FnR X.prog X.w X.K X.mg X.base CX k g sp) (hr : Room k X.A) (hx : ∀ σ, PassesAt CX X σ (E σ)) (ha : PA X (e :: es) t)
    (hst : starEach (e :: es) X.env = (false, eval e X.env) :: starEach es X.env) (hpl : (backTo pos (starEach es X.env)).any (·.1) = false)
    (ht : eval (.Call (.Attribute o m apos) (e :: es) [] pos) X.env = (do
      let ov ← eval o X.env
      standAt apos.atName
      let (f, first) ← holding [ov] (getMethod ov m pl)
      callWith pos f first (backTo pos (starEach (e :: es) X.env)) (backToKw pos (keywordEach [] X.env)))) :
    PE X (.Call (.Attribute o m apos) (e :: es) [] pos) (tCMethS Ca sp E ta t) := by
  refine ⟨fun pins s σ H Q I h => ?_⟩
  refine PySem.W.methodCall_KW (pl := pl) (thn (he.run pins s σ H _ I h) fun u s1 ⟨x, H1, I1, rx, ex, q⟩ => ?_) ht
  subst ex
  obtain rfl : u = Value.ref Ca := rx
  refine ClX.getmethcm_ok I1 r c fun s2 I2 => ?_
  refine ClX.callwith_cm I2 (ClX.base_none I1 (Nat.le_refl _)) c.fi (thn (ha.run pos _ s2 σ H1 _ I2 q) fun us s3 ⟨vs, H2, I3, rv, q2⟩ => ⟨⟨ClX.pin_at I3, I3.kIn⟩, ?_⟩) hst hpl
  exact run_cmS F hr (hx σ) I3 rv q2
def mCMeth (c : Nat) (g : Fn) (ms : M (List Hd)) : M RV := ms.bind fun hs => callV g (.d (.cl c) :: hs)
theorem snd_cmeth {k c : Nat} {o : PySem.Expr} {m : Str} {apos : Pos} {p f : Addr} {mc : Value} {g : Fn} {pl : Sem Bool} (he : PE X o (tC (.ref (C.cls c)))) (r : ClX.CRead X.K (C.cls c) mc) (cm : ClX.CMet X.K (C.cls c) mc m p f) (G : FnR X.prog X.w X.K X.mg X.base (L2.CX X.prog X.w) k f (SpOf C g)) (hr : Room k X.A) (ha : SndA C X (e :: es) ms)
    (hst : starEach (e :: es) X.env = (false, eval e X.env) :: starEach es X.env) (hpl : (backTo pos (starEach es X.env)).any (·.1) = false)
    (ht : eval (.Call (.Attribute o m apos) (e :: es) [] pos) X.env = (do
      let ov ← eval o X.env
      standAt apos.atName
      let (f, first) ← holding [ov] (getMethod ov m pl)
      callWith pos f first (backTo pos (starEach (e :: es) X.env)) (backToKw pos (keywordEach [] X.env)))) :
    SndR C X (.Call (.Attribute o m apos) (e :: es) [] pos) (mCMeth c g ms) := fun W tk => (pe_cmethS he r cm G hr (fun σ => passAt tk σ) (ha W tk) hst hpl ht).imp fun σ H Q ⟨F, ρ, P, R, q⟩ => by
  refine ⟨rfl, F, ρ, P, R, (Hold.bind (R1 := RA C σ) q).imp ?_⟩
  rintro vs H1 ⟨h1, ρ1, P1, s1, R1, r1, q1⟩
  exact callV_ok (hs := .d (.cl c) :: h1) R1 ⟨_, vs, rfl, (show Rep C P1 (.cl c) _ from Rep.ofCl), r1⟩ q1
/-! ### cls(..) -/
def tMakeL (i : Nat) (Ca : Addr) (sp : Sp) (E : L2.St → XK) (t : TA) : TE := fun σ H Q => σ[i]? = some (some (.ref Ca)) ∧ tMakeS Ca sp E t σ H Q
theorem pe_makeL {CX : CXT} {k i : Nat} {Ca f : Addr} {sp : Sp} {E : L2.St → XK} {x : Str} {p : Pos} {t : TA} (M : Mk X.K Ca f) (F : FnR X.prog X.w X.K X.mg X.base CX k f sp) (hr : Room (k + 1) X.A) (hN : X.N[i]? = some x) (hv : Vis X.env.scope x) (hx : ∀ σ, PassesAt CX X σ (E σ))
    (ha : PA X (e :: es) t) (hdb : (x == ("__debug__" : Str)) = false) (hcd : (x == ("__classdict__" : Str)) = false) (he : starEach (e :: es) X.env = (false, eval e X.env) :: starEach es X.env) (hpl : (backTo pos (starEach es X.env)).any (·.1) = false) :
    PE X (.Call (.Name x p) (e :: es) [] pos) (tMakeL i Ca sp E t) := by
  refine ⟨fun pins s σ H Q I h => ?_⟩
  obtain ⟨hs, h⟩ := h
  refine wpAny_Call_Name_kw (thn ((pe_var (pos := p) hN hv hdb hcd).run pins s σ H (fun v H1 => v = .ref Ca ∧ H1 = H) I ⟨.ref Ca, hs, rfl, rfl⟩) fun u s1 ⟨v, H1, I1, r1, q1⟩ => ?_)
  obtain ⟨rfl, rfl⟩ := q1
  cases r1
  refine PySem.W.callWith_K (h₀ := X.base) I.ok.mod.kin M.kp (thn (ha.run pos pins s1 σ _ _ I1 h) fun us s2 ⟨vs, H2, I2, r, q⟩ => ⟨I2.kIn, ?_⟩) he hpl
  exact run_makeS M F hr (hx σ) I2 r q
def isCl (c : Nat) : Option Sl → Bool
  | some (.d (.cl c')) => c' == c
  | _ => false
def mMakeL (i c n : Nat) (g : Fn) (ms : M (List Hd)) : M Hd := fun ρ => if isCl c ρ[i]? = true then mMake c n g ms ρ else .stuck
theorem snd_makeL {k i : Nat} {f : Addr} {g : Fn} {x : Str} {p : Pos} {c n : Nat} (M : Mk X.K (C.cls c) f) (G : FnR X.prog X.w X.K X.mg X.base (L2.CX X.prog X.w) k f (SpOf C g)) (hr : Room (k + 1) X.A) (hN : X.N[i]? = some x) (hv : Vis X.env.scope x)
    (ha : SndA C X (e :: es) ms) (hdb : (x == ("__debug__" : Str)) = false) (hcd : (x == ("__classdict__" : Str)) = false) (he : starEach (e :: es) X.env = (false, eval e X.env) :: starEach es X.env) (hpl : (backTo pos (starEach es X.env)).any (·.1) = false) :
    SndH C X (.Call (.Name x p) (e :: es) [] pos) (mMakeL i c n g ms) :=
  fun W tk => (pe_makeL M G hr hN hv (fun σ => passAt tk σ) (ha W tk) hdb hcd he hpl).imp fun σ H Q ⟨F, ρ, P, R, q⟩ => by
    unfold mMakeL at q
    by_cases hc : isCl c ρ[i]? = true
    · rw [if_pos hc] at q
      have ex : ρ[i]? = some (.d (.cl c)) := by
        unfold isCl at hc
        split at hc
        · rename_i c' e; rw [e, beq_iff_eq.mp hc]
        · cases hc
      obtain ⟨v, h1, h2⟩ := R.val i _ ex
      rw [h2.cl] at h1
      exact ⟨h1, make_reading ⟨F, ρ, P, R, q⟩⟩
    · rw [if_neg hc] at q; exact q.elim
/-! ### a def's promise, defaults filled up -/
def defv (g : Fn) (ds : List D) : Fn := fun s as => g s (as ++ ds)
theorem Args.ext {P H : Hp} {s : Option Spc} {as ds : List D} {vs us : List V} {ad dx : Option Addr} (h : Args C P H s as vs ad dx) (r : ∀ P, Reps C P ds us) : Args C P H s (as ++ ds) (vs ++ us) ad dx := by
  cases h with
  | plain h => exact .plain (h.append (r P))
  | io h1 h2 h3 h4 h5 => exact .io h1 h2 h3 h4 (h5.append (r P))
  | cns h1 h2 h3 h4 h5 h6 h7 => exact .cns h1 h2 h3 h4 h5 h6 (h7.append (r P))
theorem fnR_of {Pg : Program} {w : World} {K : PySem.W.Frag} {mg : Str → Option Value} {base : Heap} {CX : CXT} {k : Nat} {f : Addr} {fd : FuncData} {ps : List Str} {g : Fn} {ds : List D} {dvs : List V} (F : FnOk Pg w K mg base CX k f fd ps (SpOf C g)) (r : ∀ P, Reps C P ds dvs)
    (hb : ∃ us, Vals dvs us ∧ Binds K fd ps us) : FnR Pg w K mg base CX k f (SpOf C (defv g ds)) := by
  obtain ⟨us, hv, hb⟩ := hb
  exact (F.raw hb hv).imp fun vs H Q E ⟨s, as, P, ad, dx, h1, h2, h3⟩ => ⟨s, as ++ ds, P, ad, dx, h1, h2.ext r, h3⟩
theorem fnR_all {Pg : Program} {w : World} {K : PySem.W.Frag} {mg : Str → Option Value} {base : Heap} {CX : CXT} {k : Nat} {f : Addr} {fd : FuncData} {ps : List Str} {g : Fn} (F : FnOk Pg w K mg base CX k f fd ps (SpOf C g)) (hb : Binds K fd ps []) : FnR Pg w K mg base CX k f (SpOf C g) :=
  (F.raw hb .nil).imp fun vs H Q E h => by simpa using h
end
end VL

set_option Elab.async false
set_option linter.all false
set_option maxRecDepth 100000
set_option maxHeartbeats 400000
/-! VL13: a <= b <= c. -/
namespace VL
open PySem PySem.Spec L2
section
variable {C : Kx} {F : Fc} {X : Cx} {e a b c : PySem.Expr} {es : List PySem.Expr} {pos : Pos} {ma mb mc : M Hd} {ms : M (List Hd)}
def isBl : D → Option Bool
  | .bl k => some k
  | _ => none
def mChain (f f' : D → D → Option D) (ma mb mc : M Hd) : M Hd := ma.bind fun h1 => mb.bind fun h2 => (view h1).bind fun x => (view h2).bind fun y => (M.lift ((f x y).bind isBl)).bind fun k =>
  if k = true then mc.bind fun h3 => (view h2).bind fun y => (view h3).bind fun w => (M.lift (f' y w)).bind fun z => M.pure (.d z) else M.pure (.d (.bl false))
theorem chain_reading {r r' : R2} {f f' : D → D → Option D} (o : Op2 C r f) (o' : Op2 C r' f') {W : WX} {σ : L2.St} {H : Hp} {Q : VK} (h : rdH C W (mChain f f' ma mb mc) σ H Q) : tChain r r' (rdH C W ma) (rdH C W mb) (rdH C W mc) σ H Q := by
  obtain ⟨F, ρ, P, R, q⟩ := h
  refine ⟨F, ρ, P, R, (Hold.bind (R1 := RH C σ) q).imp ?_⟩
  rintro v H1 ⟨h1, ρ1, P1, s1, R1, r1, q1⟩
  refine ⟨F, ρ1, P1, R1, (Hold.bind (R1 := RH C σ) q1).imp ?_⟩
  rintro u H2 ⟨h2, ρ2, P2, s2, R2, r2, q2⟩
  obtain ⟨x, bx, q3⟩ := Hold.view R2 (r1.mono s2) q2
  obtain ⟨y, b_y, q4⟩ := Hold.view R2 r2 q3
  obtain ⟨k, ek, q5⟩ := Hold.lift q4
  cases ef : f x y with
  | none => rw [ef] at ek; cases ek
  | some z =>
    rw [ef, Option.bind_some] at ek
    cases z with
    | bl k' =>
      cases ek
      refine o P2 H2 x y (.bl k) v u _ R2.sub bx b_y ef fun P' H' w g rz => ?_
      obtain ⟨s3, R3⟩ := g.rel R2
      refine ⟨k, rz.bl, ?_⟩
      have q6 := Hold.up q5 s3
      cases k with
      | true =>
        rw [if_pos rfl] at q6 ⊢
        refine ⟨F, ρ2, P', R3, (Hold.bind (R1 := RH C σ) q6).imp ?_⟩
        rintro w' H4 ⟨h4, ρ4, P4, s4, R4, r4, q7⟩
        exact fin_op2 o' R4 ((r2.mono s3).mono s4) r4 q7
      | false =>
        rw [if_neg Bool.false_ne_true] at q6 ⊢
        exact q6 P' H' _ (Same.refl _) R3 (show Rep C P' (.bl false) _ from Rep.ofBl)
    | _ => cases ek
theorem snd_chain {op op' : CmpOp} {r r' : R2} {f f' : D → D → Option D} (ho : OpR X (compareOp op) r) (o : Op2 C r f) (ho' : OpR X (compareOp op') r') (o' : Op2 C r' f') (hm : lastMarks [op, op'] [b, c] = false) (ha : SndH C X a ma) (hb : SndH C X b mb) (hc : SndH C X c mc) :
    SndH C X (.Compare a [op, op'] [b, c] pos) (mChain f f' ma mb mc) := fun W tk => (pe_chain ho ho' (ha W tk) (hb W tk) (hc W tk) hm).imp fun σ H Q h => chain_reading o o' h
end
end VL

set_option Elab.async false
set_option linter.all false
set_option maxRecDepth 100000
set_option maxHeartbeats 4000000
/-! VLH: a head's facts, with one more Bool. -/
namespace VL
open PySem PySem.Spec L2 He He5
abbrev AlV : Type := He.AlD × Bool
def obsV (fa : List Fa) (fn : List DefA) (ex : PySem.W.Frag → Bool) (K : PySem.W.Frag) : AlV := (obsA fa fn K, ex K)
def valV (fn : List DefA) : AlV := (valA fn, true)
structure SaysV (fa : List Fa) (fn : List DefA) (ex : PySem.W.Frag → Bool) (K : PySem.W.Frag) : Prop where
  a : SaysA fa fn K
  more : ex K = true
def obsVG (n : Nat) (fa : List Fa) (fn : List DefA) (ex : PySem.W.Frag → Bool) (g : Addr → Option Obj) : AlV := obsV fa fn ex (frG g (asA g n))
def hookV (n : Nat) (fa : List Fa) (fn : List DefA) (ex : PySem.W.Frag → Bool) : PySem.W.Hook where
  α := AlV
  obs := fun s => obsVG n fa fn ex s.heap.get?
  val := fun _ => valV fn
  says := fun _ h => ∃ K : PySem.W.Frag, K.In h ∧ SaysV fa fn ex K
  of := fun _ _ e => ⟨_, frG_in, ⟨congrArg (fun z : AlV => z.1) e, congrArg (fun z : AlV => z.2) e⟩⟩
  keeps := fun _ _ _ ⟨K, hK, c⟩ k => ⟨K, PySem.W.Frag.In.keeps hK k, c⟩
theorem obsVG_eq {n : Nat} {fa : List Fa} {fn : List DefA} {ex : PySem.W.Frag → Bool} {g : Addr → Option Obj} {s : Shared} (h : ∀ a, g a = s.heap.get? a) : obsVG n fa fn ex g = (hookV n fa fn ex).obs s := by
  have e : g = s.heap.get? := funext h
  rw [e] <;> rfl
/-! ### facts as Bools -/
section
variable {K : PySem.W.Frag} {C : Addr}
def sclsB (K : PySem.W.Frag) (C : Addr) : Bool := PySem.W.plainGet K C Str.empty && (PySem.W.isClsIn K C && (PySem.W.plainOver K C && eqO (PySem.W.findIn K (.ref C) "__setattr__") (some (some (.builtin "object.__setattr__")))))
theorem sclsB_ok (h : sclsB K C = true) : SlX.SCls K C := by
  obtain ⟨h1, h⟩ := ba h
  obtain ⟨h2, h⟩ := ba h
  obtain ⟨h3, h4⟩ := ba h
  exact ⟨h1, h2, h3, eqO_ok h4⟩
def sisiB (K : PySem.W.Frag) (C : Addr) : Bool := eqO (PySem.W.findIn K (.ref C) "__class__") (some (some (.builtin "object.__class__"))) && (eqO (PySem.W.specialIn K (.builtin "object.__class__") "__get__") (some (some (.builtin "getset_descriptor.__get__"))) &&
  (decide (PySem.W.takesIn K (.builtin "object.__class__") = some true) && decide (PySem.W.mroIn K C (.type "object") = some true)))
theorem sisiB_ok (h : sisiB K C = true) : SlX.SIsi K C := by
  obtain ⟨h1, h⟩ := ba h
  obtain ⟨h2, h⟩ := ba h
  obtain ⟨h3, h4⟩ := ba h
  exact ⟨eqO_ok h1, eqO_ok h2, of_decide_eq_true h3, of_decide_eq_true h4⟩
/-- a property: its record at ma K C m, its getter -/
def pgetA (C : Str) (m : Str) (K : PySem.W.Frag) : Addr := wf K (ga K C) "property" m
def propB (K : PySem.W.Frag) (C : Addr) (m : Str) : Bool := eqO (PySem.W.findIn K (.ref C) m) (some (some (.ref (ma K C m)))) && (eqO (PySem.W.specialIn K (.ref (ma K C m)) "__get__") (some (some (.builtin "property.__get__"))) &&
  (decide (PySem.W.takesIn K (.ref (ma K C m)) = some true) && (match PySem.W.recIn K (ma K C m) "property" with
    | some (.ref _ :: _) => true
    | _ => false)))
structure KProp (K : PySem.W.Frag) (C : Addr) (m : Str) : Prop where
  at_ : PySem.W.findIn K (.ref C) m = some (some (.ref (ma K C m)))
  get : PySem.W.specialIn K (.ref (ma K C m)) "__get__" = some (some (.builtin "property.__get__"))
  tk : PySem.W.takesIn K (.ref (ma K C m)) = some true
  rc : ∃ rest, PySem.W.recIn K (ma K C m) "property" = some (.ref (wf K C "property" m) :: rest)
theorem propB_ok {m : Str} (h : propB K C m = true) : KProp K C m := by
  obtain ⟨h1, h⟩ := ba h
  obtain ⟨h2, h⟩ := ba h
  obtain ⟨h3, h4⟩ := ba h
  refine ⟨eqO_ok h1, eqO_ok h2, of_decide_eq_true h3, ?_⟩
  unfold wf
  split at h4
  · rename_i f r e
    exact ⟨r, by rw [e]⟩
  · cases h4
end
end VL
namespace VL
open PySem PySem.Spec L2 He He5
section
variable {K : PySem.W.Frag} {C : Addr}
def slot1B (K : PySem.W.Frag) (C : Addr) (f : Str) (i : Nat) : Bool := eqO (PySem.W.findIn K (.ref C) f) (some (some (.ref (ma K C f)))) && (eqO (PySem.W.specialIn K (.ref (ma K C f)) "__get__") (some (some (.builtin "member_descriptor.__get__"))) &&
  (decide (PySem.W.takesIn K (.ref (ma K C f)) = some true) && (decide (PySem.W.typeIn K (.ref (ma K C f)) = some (.type "member_descriptor")) && (decide (PySem.W.slotIn K (ma K C f) C = some i) && decide (i < 1000)))))
theorem slot1B_ok {f : Str} {i : Nat} (h : slot1B K C f i = true) : SlX.Slot1 K C f (ma K C f) i := by
  obtain ⟨h1, h⟩ := ba h
  obtain ⟨h2, h⟩ := ba h
  obtain ⟨h3, h⟩ := ba h
  obtain ⟨h4, h⟩ := ba h
  obtain ⟨h5, h6⟩ := ba h
  exact ⟨eqO_ok h1, eqO_ok h2, of_decide_eq_true h3, of_decide_eq_true h4, of_decide_eq_true h5, of_decide_eq_true h6⟩
def excBase : List Value := [.type "Exception", .type "BaseException", .type "object"]
def excB (K : PySem.W.Frag) (C : Addr) : Bool := PySem.W.excIn K C excBase "Exception.__new__" && (PySem.W.keepIn K (.ref C) && (decide (PySem.W.subIn K (.ref C) (.type "BaseException") = some true) && decide (PySem.W.typeIn K (.ref C) = some (.type "type"))))
theorem excB_ok {c : Kx} {X : Cx} {k : Nat} (hK : X.K = c.K) (h : excB c.K (c.cls k) = true) : KExc c X k excBase "Exception.__new__" := by
  obtain ⟨h1, h⟩ := ba h
  obtain ⟨h2, h⟩ := ba h
  obtain ⟨h3, h4⟩ := ba h
  exact ⟨by rw [hK]; exact h1, by rw [hK]; exact h2, raises_own (by rw [hK]; exact of_decide_eq_true h3) (by rw [hK]; exact of_decide_eq_true h4)⟩
/-- isinstance's facts: class c, the classes cs of which there are objects -/
def kisB (c : Kx) (k : Nat) (cs : List Nat) : Bool := (tyAll.all fun t => decide (PySem.W.kitOne c.K (.type t) (.ref (c.cls k)) = some false)) && (cs.all fun j => decide (PySem.W.kitOne c.K (.ref (c.cls j)) (.ref (c.cls k)) = some (j == k)) && (sclsB c.K (c.cls j) && sisiB c.K (c.cls j)))
theorem kisB_ok {c : Kx} {X : Cx} {k : Nat} {cs : List Nat} (h : kisB c k cs = true) : KIs c X k cs := by
  obtain ⟨h1, h2⟩ := ba h
  refine ⟨fun t ht => of_decide_eq_true (List.all_eq_true.mp h1 t ht), fun j hj => ?_, fun j hj => ?_, fun j hj => ?_⟩
  · exact of_decide_eq_true (ba (List.all_eq_true.mp h2 j hj)).1
  · exact sclsB_ok (ba (ba (List.all_eq_true.mp h2 j hj)).2).1
  · exact sisiB_ok (ba (ba (List.all_eq_true.mp h2 j hj)).2).2
def exmB (c : Kx) (ks : List Nat) : Bool := ks.all fun a => ks.all fun b => decide (PySem.W.exmOne c.K (.ref (c.cls a)) (.ref (c.cls b)) = some (isSub a b))
theorem exmB_ok {c : Kx} {ks : List Nat} (h : exmB c ks = true) : ∀ a ∈ ks, ∀ b ∈ ks, PySem.W.exmOne c.K (.ref (c.cls a)) (.ref (c.cls b)) = some (isSub a b) := fun a ha b hb =>
  of_decide_eq_true (List.all_eq_true.mp (List.all_eq_true.mp h a ha) b hb)
/-- a classmethod -/
def cmB (K : PySem.W.Frag) (C : Addr) (m : Str) : Bool := wrapB K C "classmethod" "classmethod.__get__" m && (PySem.W.fnIn K (wf K C "classmethod" m) && PySem.W.readsIn K C (.type "type"))
theorem cmB_ok {m : Str} (h : cmB K C m = true) : ClX.CMet K C (.type "type") m (ma K C m) (wf K C "classmethod" m) ∧ ClX.CRead K C (.type "type") := by
  obtain ⟨h1, h⟩ := ba h
  obtain ⟨h2, h3⟩ := ba h
  refine ⟨cmet_of h1 h2, h3, ?_⟩
  have h := h3
  unfold PySem.W.readsIn at h
  obtain ⟨h, _⟩ := ba h
  obtain ⟨h, _⟩ := ba h
  obtain ⟨h, h3⟩ := ba h
  obtain ⟨_, h2⟩ := ba h
  unfold PySem.W.specialIn
  rw [beq_iff_eq.mp h2, Option.bind_some]
  exact beq_iff_eq.mp h3
theorem SaysV.at_ {fa : List Fa} {fn : List DefA} {exs : List (PySem.W.Frag → Bool)} (c : SaysV fa fn (fun K => exs.all fun f => f K) K) (i : Nat) {f : PySem.W.Frag → Bool} (h : exs[i]? = some f) : f K = true :=
  List.all_eq_true.mp c.more f (List.mem_of_getElem? h)
end
end VL

namespace VL
open PySem PySem.Spec L2
def blkB (N : List Str) (sc scope : Scope) (own : List (Str × Nat)) : Bool :=
  (scope.names.all fun y => decide (scope.names.lookup y.1 = some y.2)) && ((own.all fun p => decide (N[p.2]? = some p.1)) && ((scope.names.all fun y => decide (y.2 ≠ .free) || (decide (sc.names.lookup y.1 = some .cell) || decide (sc.names.lookup y.1 = some .free))) &&
    (scope.names.all fun y => (decide (y.2 ≠ .local) && decide (y.2 ≠ .cell)) || (decide (y.1 ∈ own.map (·.1)) || decide (y.1 ∉ N)))))
theorem blkB_ok {N : List Str} {sc scope : Scope} {own : List (Str × Nat)} (k : scope.kind = .function) (h : blkB N sc scope own = true) : BlkOk N sc scope own := by
  obtain ⟨h1, h⟩ := Bool.and_eq_true_iff.mp h
  obtain ⟨h2, h⟩ := Bool.and_eq_true_iff.mp h
  obtain ⟨h3, h4⟩ := Bool.and_eq_true_iff.mp h
  refine ⟨k, fun y hy => of_decide_eq_true (List.all_eq_true.mp h1 y hy), fun p hp => of_decide_eq_true (List.all_eq_true.mp h2 p hp), fun y hy e => ?_, fun y hy e => ?_⟩
  · have z := List.all_eq_true.mp h3 y hy
    rw [Bool.or_eq_true, Bool.or_eq_true] at z
    rcases z with z | z | z
    · exact absurd e (of_decide_eq_true z)
    · exact .inl (of_decide_eq_true z)
    · exact .inr (of_decide_eq_true z)
  · have z := List.all_eq_true.mp h4 y hy
    rw [Bool.or_eq_true, Bool.or_eq_true, Bool.and_eq_true] at z
    rcases z with ⟨z1, z2⟩ | z | z
    · rcases e with e | e
      · exact absurd e (of_decide_eq_true z1)
      · exact absurd e (of_decide_eq_true z2)
    · exact .inl (of_decide_eq_true z)
    · exact .inr (of_decide_eq_true z)
end VL
namespace VL
open PySem PySem.Spec L2
/-- the law lets nothing out -/
theorem fn_quiet {P : Program} {w : World} {K : PySem.W.Frag} {mg : Str → Option Value} {base : Heap} {k : Nat} {f : Addr} {fd : FuncData} {ps : List Str} {sp : Sp} (F : FnOk P w K mg base (L2.CX P w) k f fd ps sp) :
    FnOk P w K mg base (fun _ _ _ _ _ _ => False) k f fd ps (fun vs H Q _ => sp vs H Q fun _ _ _ => False) :=
  ⟨fun vs H Q E h => F.len _ _ _ _ h, fun A outer s H args us vs Q E hr e0 hb r h => codeAny_mono (F.run A outer s H args us vs Q (fun _ _ _ => False) hr e0 hb r h) fun r s' hq => by
    cases r with
    | error e =>
      obtain ⟨a, B, H', cls, d, _, _, _, _, _, _, _, z⟩ := (show L2.CX P w outer H s (fun _ _ _ => False) e s' from hq)
      exact z.elim
    | ok fl => cases fl <;> exact hq⟩
end VL

set_option Elab.async false
set_option linter.all false
set_option maxRecDepth 100000
set_option maxHeartbeats 4000000
/-! VM: rules for reckoning with meanings. -/
namespace VL
open PySem PySem.Spec L2
/-! ### loops -/
theorem forL_cons {bnd : D → M Unit} {body : SM} {x : D} {xs : List D} {ρ ρ1 ρ2 : En} (h1 : bnd x ρ = .ok () ρ1) (h2 : body ρ1 = .nx ρ2) : forL bnd body (x :: xs) ρ = forL bnd body xs ρ2 := by
  conv => lhs; unfold forL
  simp only [h1, h2]
/-- an invariant that does not count -/
theorem forL_inv {I : En → Prop} {bnd : D → M Unit} {body : SM} : ∀ {xs : List D} {ρ : En}, (∀ x ∈ xs, ∀ ρ, I ρ → ∃ ρ1, bnd x ρ = .ok () ρ1 ∧ ∃ ρ2, body ρ1 = .nx ρ2 ∧ I ρ2) → I ρ → ∃ ρ', forL bnd body xs ρ = .nx ρ' ∧ I ρ'
  | [], ρ, _, h => ⟨ρ, rfl, h⟩
  | x :: xs, ρ, hb, h => by
    obtain ⟨ρ1, e1, ρ2, e2, h2⟩ := hb x (List.mem_cons_self ..) ρ h
    rw [forL_cons e1 e2]
    exact forL_inv (fun y hy => hb y (List.mem_cons_of_mem _ hy)) h2
/-- an invariant that counts the turns over a range from 0 -/
theorem forL_range {I : Nat → En → Prop} {bnd : D → M Unit} {body : SM} {n : Nat} {ρ : En} (hb : ∀ i, i < n → ∀ ρ, I i ρ → ∃ ρ1, bnd (.int i) ρ = .ok () ρ1 ∧ ∃ ρ2, body ρ1 = .nx ρ2 ∧ I (i + 1) ρ2) (h : I 0 ρ) : ∃ ρ', forL bnd body (rangeD 0 n) ρ = .nx ρ' ∧ I n ρ' := by
  have key : ∀ (k j : Nat) (ρ : En), j + k = n → I j ρ → ∃ ρ', forL bnd body ((List.range' j k).map fun i => .int (0 + (i : Nat))) ρ = .nx ρ' ∧ I n ρ' := by
    intro k
    induction k with
    | zero =>
      intro j ρ e h
      obtain rfl : j = n := by omega
      exact ⟨ρ, rfl, h⟩
    | succ k ih =>
      intro j ρ e h
      obtain ⟨ρ1, e1, ρ2, e2, h2⟩ := hb j (by omega) ρ h
      rw [List.range'_succ, List.map_cons, Int.zero_add, forL_cons e1 e2]
      exact ih (j + 1) ρ2 (by omega) h2
  have := key n 0 ρ (by omega) h
  unfold rangeD
  rw [List.range_eq_range']
  exact this
theorem fr_d {x : D} : (Sl.d x).free = true := rfl
theorem fr_own {x : List D} : (Sl.own x).free = true := rfl
theorem fr_un : Sl.un.free = true := rfl
/-! ### guards -/
theorem cDiv_small {i j : Int} (h : 0 < j) (h2 : j < 18446744073709551616) : cDiv i j = true := by
  unfold cDiv
  rw [Bool.and_eq_true]
  refine ⟨decide_eq_true h, decide_eq_true (Int.lt_of_lt_of_le h2 ?_)⟩
  have e : (18446744073709551616 : Int) = 2 ^ 64 := by decide
  rw [e]
  have h := Nat.pow_le_pow_right (n := 2) (by decide) (show 64 ≤ 8192 by decide)
  have h := Int.ofNat_le.mpr h
  rw [Int.natCast_pow, Int.natCast_pow] at h
  exact h
theorem cMul_left {i j : Int} (h : i.natAbs < 18446744073709551616) : cMul i j = true := by
  unfold cMul
  rw [decide_eq_true (show i.natAbs < 2 ^ 64 from h), Bool.true_or, Bool.true_or]
theorem cMul_right {i j : Int} (h : j.natAbs < 18446744073709551616) : cMul i j = true := by
  unfold cMul
  rw [decide_eq_true (show j.natAbs < 2 ^ 64 from h), Bool.or_true, Bool.true_or]
theorem cMul_wide {i j : Int} (h : i.natAbs < 2 ^ 8192) (h2 : j.natAbs < 2 ^ 8192) : cMul i j = true := by
  unfold cMul
  rw [decide_eq_true h, decide_eq_true h2, Bool.and_self, Bool.or_true]
theorem fEq_int (i j : Int) : fEq (.int i) (.int j) = some (.bl (i == j)) := by
  simp [fEq, eqD, toPy, SeqAt.shaped, PyData.canLay0, PyData.depth, PyData.eqv]
theorem fNe_int (i j : Int) : fNe (.int i) (.int j) = some (.bl (!(i == j))) := by
  simp [fNe, eqD, toPy, SeqAt.shaped, PyData.canLay0, PyData.depth, PyData.eqv]
theorem wL_true {c : M Bool} {body : SM} {n : Nat} {ρ ρ1 ρ2 : En} (h : c ρ = .ok true ρ1) (h2 : body ρ1 = .nx ρ2) : wL c body (n + 1) ρ = wL c body n ρ2 := by
  conv => lhs; unfold wL
  simp only [h, h2]
theorem wL_false {c : M Bool} {body : SM} {n : Nat} {ρ ρ1 : En} (h : c ρ = .ok false ρ1) : wL c body (n + 1) ρ = .nx ρ1 := by
  conv => lhs; unfold wL
  simp only [h]
theorem intBits_lt {n : Int} (h : 0 < n) : n < 2 ^ (Builtin.Int.intBits n) ∧ 1 ≤ Builtin.Int.intBits n := by
  unfold Builtin.Int.intBits
  have h0 : (n == 0) = false := by simp; omega
  rw [h0, if_neg Bool.false_ne_true]
  have := Nat.lt_log2_self (n := n.natAbs)
  have e : ((n.natAbs : Nat) : Int) = n := by omega
  refine ⟨?_, by omega⟩
  have z := Int.ofNat_lt.mpr this
  rw [Int.natCast_pow] at z
  rw [e] at z
  exact z
theorem intBits_le' {n : Int} {k : Nat} (hk : 0 < k) (h : n.natAbs < 2 ^ k) : Builtin.Int.intBits n ≤ k := by
  unfold Builtin.Int.intBits
  split
  · omega
  · have := PySem.Flt.log2_lt_of hk h
    omega
theorem dDef_run {np nN : Nat} {mb : SM} {s : Option Spc} {as : List D} {ρ : En} (h1 : (slot0 s).length + as.length = np) (h2 : np ≤ nN) (h3 : initE np nN s as = ρ) : dDef np nN mb s as = finD s (mb ρ) := by
  unfold dDef
  rw [if_pos ⟨h1, h2⟩, h3]
/-! ### the pot -/
def potOk (s : Sl) : Prop := ∃ ps : List Int, s = .own (ps.map D.int)
end VL

set_option Elab.async false
set_option linter.all false
set_option maxRecDepth 100000
set_option maxHeartbeats 4000000
/-! VP: the laws' common helpers: pot, draw. -/
namespace VL
open PySem PySem.Spec L2
namespace S
def m__law_pot : SM := (mSeq (mOwn (mLst mNil) 1)
 (mSeq (mFor (mRng1 (mOpN fMin (mCons (mOpN fLen (mCons (mVar 0) mNil)) (mCons (mD (.int 63)) mNil)))) (fun d => setSl 2 (.d d)) (mSeq (mAsg (mOpN fInt (mCons (mOp2 fIx (mVar 0) (mVar 2)) mNil)) (fun d => setSl 3 (.d d)))
 (mSeq (mAsg (mD (.int 11)) (fun d => setSl 4 (.d d)))
 (mSeq (mIfS (mBool (mOp2 fLt (mVar 3) (mD (.int 0)))) (mSeq (mAsg (mOp2 fSub (mD (.int 0)) (mVar 3)) (fun d => setSl 3 (.d d)))
 (mSeq (mAsg (mD (.int 503)) (fun d => setSl 4 (.d d)))
 mNext)) mNext)
 (mSeq (mIfS (mBool (mOp2 fGe (mVar 3) (mOp2 fPow (mD (.int 10)) (mD (.int 18))))) (mSeq (mFor (mRng1 (mD (.int 48))) (fun d => setSl 5 (.d d)) (mSeq (mIfS (mBool (mOp2 fGt (mVar 3) (mD (.int 0)))) (mSeq (mExpr (mMeth 1 fAppend (mCons (mOp2 fMod (mOpN fInt (mCons (mVar 3) mNil)) (mD (.int 30))) mNil)))
 (mSeq (mAsg (mOp2 fDiv (mVar 3) (mD (.int 30))) (fun d => setSl 3 (.d d)))
 mNext)) mNext)
 mNext))
 mNext) (mSeq (mAsg (mOp2 fMod (mOpN fInt (mCons (mOp2 fAdd (mOp2 fAdd (mOp2 fMul (mVar 3) (mD (.int 7919))) (mOp2 fMul (mVar 2) (mD (.int 104729)))) (mVar 4)) mNil)) (mD (.int 998244353))) (fun d => setSl 6 (.d d)))
 (mSeq (mFor (mRng1 (mD (.int 5))) (fun d => setSl 5 (.d d)) (mSeq (mAsg (mOp2 fMod (mOpN fInt (mCons (mOp2 fAdd (mOp2 fAdd (mOp2 fAdd (mOp2 fMul (mVar 6) (mVar 6)) (mOp2 fMul (mVar 5) (mD (.int 31337)))) (mOp2 fMul (mVar 2) (mD (.int 5)))) (mD (.int 3))) mNil)) (mD (.int 998244353))) (fun d => setSl 6 (.d d)))
 (mSeq (mExpr (mMeth 1 fAppend (mCons (mVar 6) mNil)))
 mNext)))
 mNext)))
 mNext)))))
 (mSeq (mExpr (chg 1 fReverse))
 (mSeq (mRet (mVar 1))
 mNext))))
def g__law_pot : Fn := dDef 1 7 m__law_pot
def m__law_draw : SM := (mSeq (mIfS (mBool (mOp2 fEq (mOpN fLen (mCons (mVar 0) mNil)) (mD (.int 0)))) (mSeq (mRet (mD (.int 0)))
 mNext) mNext)
 (mSeq (mRet (mOp2 fMod (mOpN fInt (mCons (chg 0 fPop) mNil)) (mVar 1)))
 mNext))
def g__law_draw : Fn := dDef 2 2 m__law_draw
theorem free_d {x : D} : (Sl.d x).free = true := rfl
/-- draw: one number off the pot -/
theorem draw_ok (ps : List Int) (k : Int) (hk : 0 < k) (hl : ps.length ≤ 16777216) : ∃ (v : Int) (ps' : List Int), 0 ≤ v ∧ v < k ∧ ps'.length ≤ ps.length ∧ g__law_draw (some (.io (ps.map D.int))) [.int k] = .ok (.d (.int v)) (some (.io (ps'.map D.int))) := by
  by_cases h : ps = []
  · subst h
    exact ⟨0, [], by omega, hk, by simp, rfl⟩
  · obtain ⟨qs, q, rfl⟩ : ∃ qs q, ps = qs ++ [q] := ⟨ps.dropLast, ps.getLast h, (List.dropLast_concat_getLast h).symm⟩
    refine ⟨q % k, qs, Int.emod_nonneg _ (by omega), Int.emod_lt_of_pos _ hk, by simp, ?_⟩
    have e1 : (qs.map D.int ++ [D.int q]).isEmpty = false := by simp
    have h0 : ¬ ((qs.length : Int) + 1 = 0) := by omega
    have hlen : ((qs.map D.int ++ [D.int q]).length : Int) ≠ 0 := by simp; omega
    simp [g__law_draw, m__law_draw, dDef, initE, slot0, mSeq, mIfS, mBool, mOp2, mOpN, mCons, mNil, mVar, mD, M.bind, M.pure, M.bindS, M.lift, view, viewSl, viewAll, fLen, fEq, eqD, toPy, SeqAt.shaped, PyData.canLay0, PyData.depth, PyData.eqv, chg, fPop, Sl.lst?, Sl.put, fInt, f2i, cMod, hk, h0, mRet, mNext, finD, finOk, spcOut]

/-- the slots of the pot's frame -/
def PotI (x : D) (L : Nat) (ρ : En) : Prop := ∃ (acc : List Int) (s2 s3 s4 s5 s6 : Sl), ρ = [.d x, .own (acc.map D.int), s2, s3, s4, s5, s6] ∧ acc.length ≤ L ∧ s2.free = true ∧ s3.free = true ∧ s4.free = true ∧ s5.free = true ∧ s6.free = true
def PotA (x : D) (i : Int) (L : Nat) (ρ : En) : Prop := ∃ (acc : List Int) (n h : Int) (s5 s6 : Sl), ρ = [.d x, .own (acc.map D.int), .d (.int i), .d (.int n), .d (.int h), s5, s6] ∧ acc.length ≤ L ∧ s5.free = true ∧ s6.free = true
def PotB (x : D) (i : Int) (L : Nat) (ρ : En) : Prop := ∃ (acc : List Int) (n h m : Int) (s5 : Sl), ρ = [.d x, .own (acc.map D.int), .d (.int i), .d (.int n), .d (.int h), s5, .d (.int m)] ∧ acc.length ≤ L ∧ s5.free = true ∧ 0 ≤ m ∧ m < 998244353
def turnA : SM := (mSeq (mIfS (mBool (mOp2 fGt (mVar 3) (mD (.int 0)))) (mSeq (mExpr (mMeth 1 fAppend (mCons (mOp2 fMod (mOpN fInt (mCons (mVar 3) mNil)) (mD (.int 30))) mNil)))
 (mSeq (mAsg (mOp2 fDiv (mVar 3) (mD (.int 30))) (fun d => setSl 3 (.d d)))
 mNext)) mNext)
 mNext)
def turnB : SM := (mSeq (mAsg (mOp2 fMod (mOpN fInt (mCons (mOp2 fAdd (mOp2 fAdd (mOp2 fAdd (mOp2 fMul (mVar 6) (mVar 6)) (mOp2 fMul (mVar 5) (mD (.int 31337)))) (mOp2 fMul (mVar 2) (mD (.int 5)))) (mD (.int 3))) mNil)) (mD (.int 998244353))) (fun d => setSl 6 (.d d)))
 (mSeq (mExpr (mMeth 1 fAppend (mCons (mVar 6) mNil)))
 mNext))
theorem potA_turn {x : D} {i : Int} {L : Nat} (hL : L < 16777216) {ρ : En} {t : Int} (h : PotA x i L ρ) : ∃ ρ1, setSl 5 (.d (.int t)) ρ = .ok () ρ1 ∧ ∃ ρ2, turnA ρ1 = .nx ρ2 ∧ PotA x i (L + 1) ρ2 := by
  obtain ⟨acc, n, h, s5, s6, rfl, hl, h5, h6⟩ := h
  refine ⟨[.d x, .own (acc.map D.int), .d (.int i), .d (.int n), .d (.int h), .d (.int t), s6], by simp [setSl, h5], ?_⟩
  by_cases hn : 0 < n
  · refine ⟨[.d x, .own ((acc ++ [n % 30]).map D.int), .d (.int i), .d (.int (n / 30)), .d (.int h), .d (.int t), s6], ?_, acc ++ [n % 30], n / 30, h, .d (.int t), s6, rfl, by simp; omega, rfl, h6⟩
    have hl2 : acc.length < 16777216 := by omega
    have hd : ∀ n : Int, cDiv n 30 = true := fun n => cDiv_small (by decide) (by decide)
    simp [turnA, mSeq, mIfS, mBool, mOp2, mOpN, mCons, mNil, mVar, mD, M.bind, M.pure, M.bindS, M.lift, view, viewSl, frz, frzSl, frzAll, viewAll, mExpr, mMeth, chg, Sl.lst?, Sl.put, fInt, f2i, cMod, hd, okc, hn, fAppend, hl2, mAsg, M.nxt, setSl, fr_d, fr_own, fr_un, mNext]
  · refine ⟨[.d x, .own (acc.map D.int), .d (.int i), .d (.int n), .d (.int h), .d (.int t), s6], ?_, acc, n, h, .d (.int t), s6, rfl, by omega, rfl, h6⟩
    simp [turnA, mSeq, mIfS, mBool, mOp2, mVar, mD, M.bind, M.pure, M.bindS, M.lift, view, f2i, okc, hn, mNext]
theorem potB_turn {x : D} {i : Int} (hi : 0 ≤ i ∧ i < 63) {L : Nat} (hL : L < 16777216) {ρ : En} {j : Nat} (hj : j < 5) (h : PotB x i L ρ) : ∃ ρ1, setSl 5 (.d (.int j)) ρ = .ok () ρ1 ∧ ∃ ρ2, turnB ρ1 = .nx ρ2 ∧ PotB x i (L + 1) ρ2 := by
  obtain ⟨acc, n, h, m, s5, rfl, hl, h5, hm0, hm1⟩ := h
  have hl2 : acc.length < 16777216 := by omega
  have g1 : cMul m m = true := cMul_left (by omega)
  have g2 : cMul (j : Int) 31337 = true := cMul_left (by omega)
  have g3 : cMul i 5 = true := cMul_left (by omega)
  refine ⟨[.d x, .own (acc.map D.int), .d (.int i), .d (.int n), .d (.int h), .d (.int j), .d (.int m)], by simp [setSl, h5], ?_⟩
  refine ⟨[.d x, .own ((acc ++ [(m * m + j * 31337 + i * 5 + 3) % 998244353]).map D.int), .d (.int i), .d (.int n), .d (.int h), .d (.int j), .d (.int ((m * m + j * 31337 + i * 5 + 3) % 998244353))], ?_, _, n, h, _, _, rfl, by simp; omega, rfl, Int.emod_nonneg _ (by decide), Int.emod_lt_of_pos _ (by decide)⟩
  simp [turnB, mSeq, mOp2, mOpN, mCons, mNil, mVar, mD, M.bind, M.pure, M.bindS, M.lift, view, viewSl, frz, frzSl, frzAll, viewAll, mExpr, mMeth, chg, Sl.lst?, Sl.put, fInt, f2i, cMod, g1, g2, g3, fAdd, okc, fAppend, hl2, mAsg, M.nxt, setSl, fr_d, fr_own, fr_un, mNext]
/-- the item of a list of ints -/
theorem atI_ints {ns : List Int} {i : Nat} (h : i < ns.length) : atI (ns.map D.int) (i : Int) = some (.int ns[i]) := atI_nat (by rw [List.getElem?_map, List.getElem?_eq_getElem h]; rfl)
def potLoop : SM := mFor (mRng1 (mD (.int 48))) (fun d => setSl 5 (.d d)) turnA
def potLoopB : SM := mFor (mRng1 (mD (.int 5))) (fun d => setSl 5 (.d d)) turnB
theorem potLoop_ok {x : D} {i : Int} {L : Nat} (hL : L + 48 < 16777216) {ρ : En} (h : PotA x i L ρ) : ∃ ρ', potLoop ρ = .nx ρ' ∧ PotA x i (L + 48) ρ' := by
  have z := forL_range (bnd := fun d => setSl 5 (.d d)) (body := turnA) (I := fun j => PotA x i (L + j)) (n := 48) (fun j hj ρ hρ => potA_turn (L := L + j) (by omega) hρ) h
  exact z
theorem potLoopB_ok {x : D} {i : Int} (hi : 0 ≤ i ∧ i < 63) {L : Nat} (hL : L + 5 < 16777216) {ρ : En} (h : PotB x i L ρ) : ∃ ρ', potLoopB ρ = .nx ρ' ∧ PotB x i (L + 5) ρ' := by
  have z := forL_range (bnd := fun d => setSl 5 (.d d)) (body := turnB) (I := fun j => PotB x i (L + j)) (n := 5) (fun j hj ρ hρ => potB_turn (L := L + j) hi (by omega) hj hρ) h
  exact z
theorem PotA.up {x : D} {i : Int} {L L' : Nat} (hL : L ≤ L') {ρ : En} (h : PotA x i L ρ) : PotI x L' ρ := by
  obtain ⟨acc, n, h, s5, s6, rfl, hl, h5, h6⟩ := h
  exact ⟨acc, _, _, _, _, _, rfl, by omega, rfl, rfl, rfl, h5, h6⟩
theorem PotB.up {x : D} {i : Int} {L L' : Nat} (hL : L ≤ L') {ρ : En} (h : PotB x i L ρ) : PotI x L' ρ := by
  obtain ⟨acc, n, h, m, s5, rfl, hl, h5, _⟩ := h
  exact ⟨acc, _, _, _, _, _, rfl, by omega, rfl, rfl, rfl, h5, rfl⟩
def potPre (k : SM) : SM := mSeq (mAsg (mOpN fInt (mCons (mOp2 fIx (mVar 0) (mVar 2)) mNil)) (fun d => setSl 3 (.d d)))
 (mSeq (mAsg (mD (.int 11)) (fun d => setSl 4 (.d d)))
 (mSeq (mIfS (mBool (mOp2 fLt (mVar 3) (mD (.int 0)))) (mSeq (mAsg (mOp2 fSub (mD (.int 0)) (mVar 3)) (fun d => setSl 3 (.d d)))
 (mSeq (mAsg (mD (.int 503)) (fun d => setSl 4 (.d d)))
 mNext)) mNext) k))
def potPost : SM := (mSeq (mIfS (mBool (mOp2 fGe (mVar 3) (mOp2 fPow (mD (.int 10)) (mD (.int 18))))) (mSeq potLoop
 mNext) (mSeq (mAsg (mOp2 fMod (mOpN fInt (mCons (mOp2 fAdd (mOp2 fAdd (mOp2 fMul (mVar 3) (mD (.int 7919))) (mOp2 fMul (mVar 2) (mD (.int 104729)))) (mVar 4)) mNil)) (mD (.int 998244353))) (fun d => setSl 6 (.d d)))
 (mSeq potLoopB
 mNext)))
 mNext)
def potHead : SM := potPre potPost
theorem potHead_ok {ns : List Int} {i : Nat} (hi : i < ns.length) (hi2 : i < 63) {L : Nat} (hL : L + 48 < 16777216) {ρ : En} (h : PotI (.ro (ns.map D.int)) L ρ) : ∃ ρ1, setSl 2 (.d (.int i)) ρ = .ok () ρ1 ∧ ∃ ρ2, potHead ρ1 = .nx ρ2 ∧ PotI (.ro (ns.map D.int)) (L + 48) ρ2 := by
  obtain ⟨acc, s2, s3, s4, s5, s6, rfl, hl, h2, h3, h4, h5, h6⟩ := h
  refine ⟨[.d (.ro (ns.map D.int)), .own (acc.map D.int), .d (.int i), s3, s4, s5, s6], by simp [setSl, h2], ?_⟩
  have hp : (10 : Int) ^ (18 : Nat) = 1000000000000000000 := by decide
  have gp : cPow 10 18 = true := by decide
  obtain ⟨v, w, hvw, e1⟩ : ∃ v w : Int, True ∧ ∀ k : SM, potPre k [.d (.ro (ns.map D.int)), .own (acc.map D.int), .d (.int i), s3, s4, s5, s6] = k [.d (.ro (ns.map D.int)), .own (acc.map D.int), .d (.int i), .d (.int v), .d (.int w), s5, s6] ∧ 0 ≤ v ∧ 0 ≤ w ∧ w < 1000 := by
    by_cases hn : ns[i] < 0
    · refine ⟨0 - ns[i], 503, trivial, fun k => ⟨?_, by omega, by omega, by omega⟩⟩
      simp [potPre, mSeq, mOp2, mOpN, mCons, mNil, mVar, mD, M.bind, M.pure, M.bindS, M.lift, view, viewSl, frz, frzSl, frzAll, viewAll, fInt, f2i, fIx, atI_ints hi, okc, mAsg, M.nxt, setSl, fr_d, fr_own, fr_un, mNext, h3, h4, mIfS, mBool, hn]
    · refine ⟨ns[i], 11, trivial, fun k => ⟨?_, by omega, by omega, by omega⟩⟩
      simp [potPre, mSeq, mOp2, mOpN, mCons, mNil, mVar, mD, M.bind, M.pure, M.bindS, M.lift, view, viewSl, frz, frzSl, frzAll, viewAll, fInt, f2i, fIx, atI_ints hi, okc, mAsg, M.nxt, setSl, fr_d, fr_own, fr_un, mNext, h3, h4, mIfS, mBool, hn]
  unfold potHead
  rw [(e1 _).1]
  obtain ⟨_, hv, hw, hw2⟩ := e1 mNext
  by_cases hb : (1000000000000000000 : Int) ≤ v
  · obtain ⟨ρ', e2, h2'⟩ := potLoop_ok (L := L) (by omega) (show PotA (.ro (ns.map D.int)) i L [.d (.ro (ns.map D.int)), .own (acc.map D.int), .d (.int i), .d (.int v), .d (.int w), s5, s6] from ⟨acc, v, w, s5, s6, rfl, hl, h5, h6⟩)
    refine ⟨ρ', ?_, h2'.up (Nat.le_refl _)⟩
    simp [potPost, mSeq, mOp2, mVar, mD, M.bind, M.pure, M.bindS, M.lift, view, f2i, okc, mNext, mIfS, mBool, gp, hp, hb, e2]
  · have g1 : cMul v 7919 = true := cMul_right (by decide)
    have g2 : cMul (i : Int) 104729 = true := cMul_right (by decide)
    obtain ⟨ρ', e2, h2'⟩ := potLoopB_ok (L := L) (i := i) (by omega) (by omega) (show PotB (.ro (ns.map D.int)) i L [.d (.ro (ns.map D.int)), .own (acc.map D.int), .d (.int i), .d (.int v), .d (.int w), s5, .d (.int ((v * 7919 + i * 104729 + w) % 998244353))] from ⟨acc, v, w, _, s5, rfl, hl, h5, Int.emod_nonneg _ (by decide), Int.emod_lt_of_pos _ (by decide)⟩)
    refine ⟨ρ', ?_, h2'.up (by omega)⟩
    simp [potPost, mSeq, mOp2, mOpN, mCons, mNil, mVar, mD, M.bind, M.pure, M.bindS, M.lift, view, frz, viewAll, fInt, f2i, cMod, g1, g2, fAdd, okc, mAsg, M.nxt, setSl, fr_d, fr_own, fr_un, mNext, mIfS, mBool, gp, hp, hb, h6, e2]
/-- the pot: a list of whole numbers -/
theorem pot_ok (ns : List Int) (hn : ns.length ≤ 63) : ∃ ps : List Int, ps.length ≤ 4096 ∧ g__law_pot none [.ro (ns.map D.int)] = .ok (.fr (ps.map D.int)) none := by
  have hr : rng1 (.int (min (ns.length : Int) 63)) = some (rangeD 0 ns.length) := by
    have e : min (ns.length : Int) 63 = (ns.length : Int) := by omega
    rw [e]
    show (if (in62 (ns.length : Int) && decide ((ns.length : Int) ≤ 16777216)) = true then some (rangeD 0 (ns.length : Int).toNat) else none) = _
    rw [if_pos (by unfold in62; simp; omega)]
    rfl
  obtain ⟨ρ', e, acc, s2, s3, s4, s5, s6, rfl, hl, _⟩ := forL_range (I := fun j => PotI (.ro (ns.map D.int)) (48 * j)) (body := potHead) (bnd := fun d => setSl 2 (.d d)) (n := ns.length) (ρ := [.d (.ro (ns.map D.int)), .own [], .un, .un, .un, .un, .un])
    (fun i hi ρ hρ => potHead_ok (L := 48 * i) hi (by omega) (by omega) hρ) ⟨[], _, _, _, _, _, rfl, by simp, rfl, rfl, rfl, rfl, rfl⟩
  refine ⟨acc.reverse, by simp; omega, ?_⟩
  have hl2 : ns.length ≤ 16777216 := by omega
  unfold g__law_pot
  refine (dDef_run (ρ := [.d (.ro (ns.map D.int)), .un, .un, .un, .un, .un, .un]) (by rfl) (by decide) (by rfl)).trans ?_
  have e0 : m__law_pot = mSeq (mOwn (mLst mNil) 1) (mSeq (mFor (mRng1 (mOpN fMin (mCons (mOpN fLen (mCons (mVar 0) mNil)) (mCons (mD (.int 63)) mNil)))) (fun d => setSl 2 (.d d)) potHead) (mSeq (mExpr (chg 1 fReverse)) (mSeq (mRet (mVar 1)) mNext))) := by unfold m__law_pot potHead potPre potPost potLoop potLoopB turnA turnB; rfl
  rw [e0]
  simp [mSeq, mOwn, mLst, mNil, mFor, mRng1, mOpN, mCons, mVar, mD, M.bind, M.pure, M.bindS, M.lift, view, viewAll, frzAll, fLen, fMin, hr, e, M.nxt, setSl, fr_d, fr_own, fr_un, mNext, mExpr, chg, fReverse, Sl.lst?, Sl.put, mRet, finD, finOk, spcOut]
end S
end VL

set_option Elab.async false
set_option linter.all false
set_option maxRecDepth 100000
set_option maxHeartbeats 4000000
/-! VG: whole roots. -/
namespace VL
open PySem PySem.Spec L2
theorem newton_low {n s root : Int} (h1 : s * s ≤ n) (hr : 0 < root) : s ≤ (root + n / root) / 2 := by
  have h : 2 * s - root ≤ n / root := by
    refine Int.le_ediv_of_mul_le hr ?_
    have : 0 ≤ (root - s) * (root - s) := by
      rcases Int.le_total 0 (root - s) with h | h
      · exact Int.mul_nonneg h h
      · exact Int.mul_nonneg_of_nonpos_of_nonpos h h
    grind
  omega
theorem newton_step {n s root : Int} (hs : 0 ≤ s) (h2 : n < (s + 1) * (s + 1)) (hr : s < root) : (root + n / root) / 2 < root ∧ 2 * ((root + n / root) / 2 - s) ≤ root - s := by
  have h : n / root < s + 1 := by
    refine Int.ediv_lt_of_lt_mul (by omega) ?_
    have : (s + 1) * (s + 1) ≤ (s + 1) * root := Int.mul_le_mul_of_nonneg_left (by omega) (by omega)
    omega
  omega
def rootB : SM := (mSeq (mAsg (mVar 2) (fun d => setSl 1 (.d d)))
 (mSeq (mAsg (mOp2 fDiv (mOp2 fAdd (mVar 1) (mOp2 fDiv (mVar 0) (mVar 1))) (mD (.int 2))) (fun d => setSl 2 (.d d)))
 mNext))
def rootC : M Bool := (mBool (mOp2 fLt (mVar 2) (mVar 1)))
def rootE (n root : Int) : En := [.d (.int n), .d (.int root), .d (.int ((root + n / root) / 2))]
theorem cDiv_2 (i : Int) : cDiv i 2 = true := cDiv_small (by decide) (by decide)
theorem cDiv_wide {i j : Int} (h : 0 < j) (h2 : j < 2 ^ 8192) : cDiv i j = true := by
  unfold cDiv
  rw [decide_eq_true h, decide_eq_true h2]; rfl
theorem pow_lt_wide {k : Nat} (h : k ≤ 8192) : (2 : Int) ^ k ≤ 2 ^ 8192 := by
  have h := Nat.pow_le_pow_right (n := 2) (by decide) h
  have h := Int.ofNat_le.mpr h
  rw [Int.natCast_pow, Int.natCast_pow] at h
  exact h
theorem root_turn {n root : Int} (hr : 0 < root) (hr2 : root < 2 ^ 8192) (hb : 0 < (root + n / root) / 2) (h : (root + n / root) / 2 < root) : rootC (rootE n root) = .ok true (rootE n root) ∧ rootB (rootE n root) = .nx (rootE n ((root + n / root) / 2)) := by
  have g : ∀ i : Int, cDiv i ((root + n / root) / 2) = true := fun i => cDiv_wide hb (Int.lt_trans h hr2)
  constructor
  · simp [rootC, rootE, mBool, mOp2, mVar, M.bind, M.pure, M.lift, view, f2i, okc, h]
  · simp [rootB, rootE, mSeq, mAsg, mOp2, mVar, mD, M.bind, M.bindS, M.pure, M.lift, view, frz, f2i, fAdd, M.nxt, setSl, fr_d, mNext, cDiv_2, g]
theorem root_loop {n s : Int} (hs : 0 < s) (h1 : s * s ≤ n) (h2 : n < (s + 1) * (s + 1)) : ∀ (f : Nat) (root : Int), s ≤ root → root - s < 2 ^ f → root < 2 ^ 8192 → wL rootC rootB (f + 1) (rootE n root) = .nx (rootE n s) := by
  intro f
  induction f with
  | zero =>
    intro root h3 h4 h5
    obtain rfl : root = s := by
      have : (2 : Int) ^ 0 = 1 := rfl
      omega
    have hb := newton_low (root := root) h1 hs
    refine wL_false ?_
    have : ¬ (root + n / root) / 2 < root := by omega
    simp [rootC, rootE, mBool, mOp2, mVar, M.bind, M.pure, M.lift, view, f2i, okc, this]
  | succ f ih =>
    intro root h3 h4 h5
    have hb := newton_low (root := root) h1 (by omega)
    by_cases h : s < root
    · obtain ⟨k1, k2⟩ := newton_step (by omega) h2 h
      obtain ⟨e1, e2⟩ := root_turn (n := n) (root := root) (by omega) h5 (by omega) k1
      rw [wL_true e1 e2]
      have : (2 : Int) ^ (f + 1) = 2 * 2 ^ f := by rw [Int.pow_succ, Int.mul_comm]
      exact ih _ hb (by omega) (by omega)
    · obtain rfl : root = s := by omega
      refine wL_false ?_
      have : ¬ (root + n / root) / 2 < root := by omega
      simp [rootC, rootE, mBool, mOp2, mVar, M.bind, M.pure, M.lift, view, f2i, okc, this]
/-- there is a whole root -/
theorem isqrt_ex (n : Nat) : ∃ s : Nat, s * s ≤ n ∧ n < (s + 1) * (s + 1) := by
  induction n with
  | zero => exact ⟨0, by omega, by omega⟩
  | succ n ih =>
    obtain ⟨s, h1, h2⟩ := ih
    by_cases h : n + 1 < (s + 1) * (s + 1)
    · exact ⟨s, by omega, h⟩
    · refine ⟨s + 1, by omega, ?_⟩
      have : (s + 1) * (s + 1) < (s + 1 + 1) * (s + 1 + 1) := Nat.mul_lt_mul'' (by omega) (by omega)
      omega
end VL

set_option Elab.async false
set_option linter.all false
set_option maxRecDepth 100000
set_option maxHeartbeats 4000000
namespace VL
open PySem PySem.Spec L2 He He5
namespace K64
def m__law_pot : SM := (mSeq (mOwn (mLst mNil) 1)
 (mSeq (mFor (mRng1 (mOpN fMin (mCons (mOpN fLen (mCons (mVar 0) mNil)) (mCons (mD (.int 63)) mNil)))) (fun d => setSl 2 (.d d)) (mSeq (mAsg (mOpN fInt (mCons (mOp2 fIx (mVar 0) (mVar 2)) mNil)) (fun d => setSl 3 (.d d)))
 (mSeq (mAsg (mD (.int 11)) (fun d => setSl 4 (.d d)))
 (mSeq (mIfS (mBool (mOp2 fLt (mVar 3) (mD (.int 0)))) (mSeq (mAsg (mOp2 fSub (mD (.int 0)) (mVar 3)) (fun d => setSl 3 (.d d)))
 (mSeq (mAsg (mD (.int 503)) (fun d => setSl 4 (.d d)))
 mNext)) mNext)
 (mSeq (mIfS (mBool (mOp2 fGe (mVar 3) (mOp2 fPow (mD (.int 10)) (mD (.int 18))))) (mSeq (mFor (mRng1 (mD (.int 48))) (fun d => setSl 5 (.d d)) (mSeq (mIfS (mBool (mOp2 fGt (mVar 3) (mD (.int 0)))) (mSeq (mExpr (mMeth 1 fAppend (mCons (mOp2 fMod (mOpN fInt (mCons (mVar 3) mNil)) (mD (.int 30))) mNil)))
 (mSeq (mAsg (mOp2 fDiv (mVar 3) (mD (.int 30))) (fun d => setSl 3 (.d d)))
 mNext)) mNext)
 mNext))
 mNext) (mSeq (mAsg (mOp2 fMod (mOpN fInt (mCons (mOp2 fAdd (mOp2 fAdd (mOp2 fMul (mVar 3) (mD (.int 7919))) (mOp2 fMul (mVar 2) (mD (.int 104729)))) (mVar 4)) mNil)) (mD (.int 998244353))) (fun d => setSl 6 (.d d)))
 (mSeq (mFor (mRng1 (mD (.int 5))) (fun d => setSl 5 (.d d)) (mSeq (mAsg (mOp2 fMod (mOpN fInt (mCons (mOp2 fAdd (mOp2 fAdd (mOp2 fAdd (mOp2 fMul (mVar 6) (mVar 6)) (mOp2 fMul (mVar 5) (mD (.int 31337)))) (mOp2 fMul (mVar 2) (mD (.int 5)))) (mD (.int 3))) mNil)) (mD (.int 998244353))) (fun d => setSl 6 (.d d)))
 (mSeq (mExpr (mMeth 1 fAppend (mCons (mVar 6) mNil)))
 mNext)))
 mNext)))
 mNext)))))
 (mSeq (mExpr (chg 1 fReverse))
 (mSeq (mRet (mVar 1))
 mNext))))
def g__law_pot : Fn := dDef 1 7 m__law_pot
def m__law_draw : SM := (mSeq (mIfS (mBool (mOp2 fEq (mOpN fLen (mCons (mVar 0) mNil)) (mD (.int 0)))) (mSeq (mRet (mD (.int 0)))
 mNext) mNext)
 (mSeq (mRet (mOp2 fMod (mOpN fInt (mCons (chg 0 fPop) mNil)) (mVar 1)))
 mNext))
def g__law_draw : Fn := dDef 2 2 m__law_draw
def m__law_low : SM := (mSeq (mRet (mOpN fMin (mCons (mFrzF (mComp [3] (mSrc (mOp2 fIx (mOp2 fIx (mVar 0) (mD (.int 0))) (mVar 2))) (fun d => setSl 3 (.d d)) (M.pure true) (mOp2 fIx (mVar 1) (mVar 3)))) mNil)))
 mNext)
def g__law_low : Fn := dDef 3 4 m__law_low
def m__law_high : SM := (mSeq (mRet (mOpN fMax (mCons (mFrzF (mComp [3] (mSrc (mOp2 fIx (mOp2 fIx (mVar 0) (mD (.int 1))) (mVar 2))) (fun d => setSl 3 (.d d)) (M.pure true) (mOp2 fIx (mVar 1) (mVar 3)))) mNil)))
 mNext)
def g__law_high : Fn := dDef 3 4 m__law_high
def m__law_bank_cost : SM := (mSeq (mAsg (mRV (mCall g__law_low false (mCons (mVar 0) (mCons (mVar 2) (mCons (mVar 4) mNil))))) (fun d => setSl 6 (.d d)))
 (mSeq (mAsg (mVar 5) (fun d => setSl 7 (.d d)))
 (mSeq (mFor (mRng1 (mOp2 fAdd (mVar 3) (mD (.int 2)))) (fun d => setSl 8 (.d d)) (mSeq (mAsg (mOp2 fSub (mOp2 fSub (mVar 3) (mVar 8)) (mD (.int 1))) (fun d => setSl 9 (.d d)))
 (mSeq (mIfS (mBool (mOp2 fEq (mOp2 fIx (mOp2 fIx (mVar 0) (mD (.int 2))) (mVar 4)) (mD (.int 2)))) (mSeq (mAsg (mOp2 fSub (mVar 3) (mVar 8)) (fun d => setSl 9 (.d d)))
 mNext) mNext)
 (mSeq (mAsg (mD (.int 0)) (fun d => setSl 10 (.d d)))
 (mSeq (mIfS (mAnd (mBool (mOp2 fGe (mVar 9) (mD (.int 0)))) (mBool (mOp2 fEq (mVar 9) (mVar 3)))) (mSeq (mAsg (mRV (mCall g__law_high false (mCons (mVar 0) (mCons (mVar 2) (mCons (mVar 4) mNil))))) (fun d => setSl 10 (.d d)))
 mNext) (mSeq (mIfS (mBool (mOp2 fGe (mVar 9) (mD (.int 0)))) (mSeq (mAsg (mRV (mCall g__law_high false (mCons (mVar 0) (mCons (mOp2 fIx (mVar 1) (mVar 9)) (mCons (mVar 4) mNil))))) (fun d => setSl 10 (.d d)))
 mNext) mNext)
 mNext))
 (mSeq (mAsg (mOpN fMax (mCons (mOp2 fAdd (mVar 8) (mVar 6)) (mCons (mVar 10) mNil))) (fun d => setSl 11 (.d d)))
 (mSeq (mIfS (mAnd (mBool (mOp2 fEq (mOp2 fIx (mOp2 fIx (mVar 0) (mD (.int 2))) (mVar 4)) (mD (.int 2)))) (mBool (mOp2 fEq (mVar 8) (mD (.int 0))))) (mSeq (mAsg (mVar 10) (fun d => setSl 11 (.d d)))
 mNext) mNext)
 (mSeq (mAsg (mOpN fMin (mCons (mVar 7) (mCons (mVar 11) mNil))) (fun d => setSl 7 (.d d)))
 mNext))))))))
 (mSeq (mRet (mVar 7))
 mNext))))
def g__law_bank_cost : Fn := dDef 6 12 m__law_bank_cost
def m__law_bank_rows : SM := (mSeq (mAsg (mOp2 fPow (mD (.int 10)) (mD (.int 6))) (fun d => setSl 2 (.d d)))
 (mSeq (mOwn (mLst mNil) 3)
 (mSeq (mFor (mSrc (mOp2 fIx (mVar 0) (mD (.int 3)))) (fun d => setSl 4 (.d d)) (mSeq (mIfS (mAnd (mBool (mOp2 fIsNot (mVar 4) (mD .non))) (mBool (mOp2 fEq (mOp2 fIx (mVar 4) (mD (.int 0))) (mD (.str "chips"))))) (mSeq (mExpr (mMeth 3 fAppend (mCons (mOp2 fIx (mVar 4) (mD (.int 1))) mNil)))
 mNext) (mSeq (mExpr (mMeth 3 fAppend (mCons (mVar 2) mNil)))
 mNext))
 mNext))
 (mSeq (mOwn (mLst mNil) 5)
 (mSeq (mFor (mRng1 (mOp2 fAdd (mVar 1) (mD (.int 1)))) (fun d => setSl 6 (.d d)) (mSeq (mAsg (mFrzF (mOpF fList (mCons (mVar 3) mNil))) (fun d => setSl 7 (.d d)))
 (mSeq (mFor (mRng1 (mOp2 fMul (mOpN fLen (mCons (mVar 7) mNil)) (mOp2 fAdd (mOp2 fMul (mOpN fLen (mCons (mVar 7) mNil)) (mOp2 fAdd (mVar 6) (mD (.int 2)))) (mD (.int 8))))) (fun d => setSl 8 (.d d)) (mSeq (mOwn (mOpF fList (mCons (mVar 3) mNil)) 9)
 (mSeq (mFor (mRng1 (mOpN fLen (mCons (mVar 7) mNil))) (fun d => setSl 10 (.d d)) (mSeq (mIfS (mBool (mOp2 fGt (mOpN fLen (mCons (mOp2 fIx (mOp2 fIx (mVar 0) (mD (.int 0))) (mVar 10)) mNil)) (mD (.int 0)))) (mSeq (mSetI 9 (mVar 10) (mOpN fMin (mCons (mOp2 fIx (mVar 3) (mVar 10)) (mCons (mRV (mCall g__law_bank_cost false (mCons (mVar 0) (mCons (mVar 5) (mCons (mVar 7) (mCons (mVar 6) (mCons (mVar 10) (mCons (mVar 2) mNil)))))))) mNil))))
 mNext) mNext)
 mNext))
 (mSeq (mIfS (mBool (mOp2 fEq (mVar 9) (mVar 7))) (mSeq mBreak
 mNext) mNext)
 (mSeq (mAsg (mVar 9) (fun d => setSl 7 (.d d)))
 mNext)))))
 (mSeq (mExpr (mMeth 5 fAppend (mCons (mVar 7) mNil)))
 mNext))))
 (mSeq (mRet (mVar 5))
 mNext))))))
def g__law_bank_rows : Fn := dDef 2 11 m__law_bank_rows
def m_need_web : SM := (mSeq (mIfS (mNot (mTruth (mOp1 (fIsC' 10 [10]) (mVar 0)))) (mSeq (mRaise 1 (mCons (mD (.str "a Web is expected")) mNil))
 mNext) mNext)
 mNext)
def g_need_web : Fn := dDef 1 1 m_need_web
def m_is_integer : SM := (mSeq (mRet (mAndV (mOp1 (fIsT 0) (mVar 0)) (mNotV (mOp1 (fIsT 1) (mVar 0)))))
 mNext)
def g_is_integer : Fn := dDef 1 1 m_is_integer
def m_need_integer : SM := (mSeq (mIfS (mNot (mTruth (mRV (mCall g_is_integer false (mCons (mVar 0) mNil))))) (mSeq (mRaise 1 (mCons (mJs [(mOp1 fFmt (mVar 1)), (mD (.str " must be an integer"))] Str.empty) mNil))
 mNext) mNext)
 mNext)
def g_need_integer : Fn := dDef 2 2 m_need_integer
def m_need_from : SM := (mSeq (mIfS (mBool (mOp2 fLt (mVar 0) (mVar 1))) (mSeq (mRaise 2 (mCons (mJs [(mOp1 fFmt (mVar 2)), (mD (.str " must be at least ")), (mOp1 fFmt (mVar 1))] Str.empty) mNil))
 mNext) mNext)
 mNext)
def g_need_from : Fn := dDef 3 3 m_need_from
def m_need_up_to : SM := (mSeq (mIfS (mBool (mOp2 fGt (mVar 0) (mVar 1))) (mSeq (mRaise 6 (mCons (mJs [(mOp1 fFmt (mVar 2)), (mD (.str " is at most ")), (mOp1 fFmt (mVar 1))] Str.empty) mNil))
 mNext) mNext)
 mNext)
def g_need_up_to : Fn := dDef 3 3 m_need_up_to
def m_Web__greatest_due : SM := (mSeq (mRet (mFld 10 3 (mVar 0)))
 mNext)
def g_Web__greatest_due : Fn := dDef 1 1 m_Web__greatest_due
def m_Web__dues : SM := (mSeq (mRet (mFld 10 0 (mVar 0)))
 mNext)
def g_Web__dues : Fn := dDef 1 1 m_Web__dues
def m_bank_owed : SM := (mSeq (mIfS (mOr (mBool (mOp2 fIs (mVar 0) (mD .non))) (mBool (mOp2 fNe (mOp2 fIx (mVar 0) (mD (.int 0))) (mD (.str "chips"))))) (mSeq (mRet (mD .non))
 mNext) mNext)
 (mSeq (mRet (mOp2 fIx (mVar 0) (mD (.int 1))))
 mNext))
def g_bank_owed : Fn := dDef 1 1 m_bank_owed
def m_Web__size : SM := (mSeq (mRet (mOpN fLen (mCons (mFld 10 4 (mVar 0)) mNil)))
 mNext)
def g_Web__size : Fn := dDef 1 1 m_Web__size
def m_bank_lesser : SM := (mSeq (mIfS (mBool (mOp2 fIs (mVar 0) (mD .non))) (mSeq (mRet (mVar 1))
 mNext) mNext)
 (mSeq (mRet (mIf (mBool (mOp2 fIs (mVar 1) (mD .non))) (mVar 0) (mOpN fMin (mCons (mVar 0) (mCons (mVar 1) mNil)))))
 mNext))
def g_bank_lesser : Fn := dDef 2 2 m_bank_lesser
def m_Web__first : SM := (mSeq (mRet (mFld 10 2 (mVar 0)))
 mNext)
def g_Web__first : Fn := dDef 1 1 m_Web__first
def m_bank_low : SM := (mSeq (mAsg (mD .non) (fun d => setSl 3 (.d d)))
 (mSeq (mFor (mSrc (mOp2 fIx (mProp 10 g_Web__first (mVar 0)) (mVar 2))) (fun d => setSl 4 (.d d)) (mSeq (mAsg (mRV (mCall g_bank_lesser false (mCons (mVar 3) (mCons (mOp2 fIx (mVar 1) (mVar 4)) mNil)))) (fun d => setSl 3 (.d d)))
 mNext))
 (mSeq (mRet (mVar 3))
 mNext)))
def g_bank_low : Fn := dDef 3 5 m_bank_low
def m_Web__second : SM := (mSeq (mRet (mFld 10 6 (mVar 0)))
 mNext)
def g_Web__second : Fn := dDef 1 1 m_Web__second
def m_bank_greater : SM := (mSeq (mIfS (mOr (mBool (mOp2 fIs (mVar 0) (mD .non))) (mBool (mOp2 fIs (mVar 1) (mD .non)))) (mSeq (mRet (mD .non))
 mNext) mNext)
 (mSeq (mRet (mOpN fMax (mCons (mVar 0) (mCons (mVar 1) mNil))))
 mNext))
def g_bank_greater : Fn := dDef 2 2 m_bank_greater
def m_bank_high : SM := (mSeq (mAsg (mD (.int 0)) (fun d => setSl 3 (.d d)))
 (mSeq (mFor (mSrc (mOp2 fIx (mProp 10 g_Web__second (mVar 0)) (mVar 2))) (fun d => setSl 4 (.d d)) (mSeq (mAsg (mRV (mCall g_bank_greater false (mCons (mVar 3) (mCons (mOp2 fIx (mVar 1) (mVar 4)) mNil)))) (fun d => setSl 3 (.d d)))
 mNext))
 (mSeq (mRet (mVar 3))
 mNext)))
def g_bank_high : Fn := dDef 3 5 m_bank_high
def m_Web__marks : SM := (mSeq (mRet (mFld 10 4 (mVar 0)))
 mNext)
def g_Web__marks : Fn := dDef 1 1 m_Web__marks
def m_bank_ways : SM := (mSeq (mAsg (mRV (mCall g_bank_low false (mCons (mVar 0) (mCons (mVar 2) (mCons (mVar 4) mNil))))) (fun d => setSl 5 (.d d)))
 (mSeq (mAsg (mFrzF (mOp2F fCat (mFrzF (mComp [9] (mSrc (mFrzF (mSlF (mVar 1) none (some (mVar 3))))) (fun d => setSl 9 (.d d)) (M.pure true) (mRV (mCall g_bank_high false (mCons (mVar 0) (mCons (mVar 9) (mCons (mVar 4) mNil))))))) (mFrzF (mLst (mCons (mRV (mCall g_bank_high false (mCons (mVar 0) (mCons (mVar 2) (mCons (mVar 4) mNil))))) mNil))))) (fun d => setSl 6 (.d d)))
 (mSeq (mAsg (mFrzF (mComp [10] (mRng1 (mOp2 fAdd (mVar 3) (mD (.int 2)))) (fun d => setSl 10 (.d d)) (M.pure true) (mIf (mBool (mOp2 fIs (mVar 5) (mD .non))) (mD .non) (mOp2 fAdd (mVar 10) (mVar 5))))) (fun d => setSl 7 (.d d)))
 (mSeq (mIfS (mBool (mOp2 fEq (mOp2 fIx (mProp 10 g_Web__marks (mVar 0)) (mVar 4)) (mD (.int 1)))) (mSeq (mRetF (mComp [10] (mRng1 (mOp2 fAdd (mVar 3) (mD (.int 1)))) (fun d => setSl 10 (.d d)) (M.pure true) (mRV (mCall g_bank_greater false (mCons (mOp2 fIx (mVar 7) (mVar 10)) (mCons (mIf (mBool (mOp2 fLt (mVar 10) (mVar 3))) (mOp2 fIx (mVar 6) (mOp2 fSub (mOp2 fSub (mVar 3) (mVar 10)) (mD (.int 1)))) (mD (.int 0))) mNil))))))
 mNext) mNext)
 (mSeq (mOwnD (mComp [10] (mRng2 (mD (.int 1)) (mOp2 fAdd (mVar 3) (mD (.int 2)))) (fun d => setSl 10 (.d d)) (M.pure true) (mRV (mCall g_bank_greater false (mCons (mOp2 fIx (mVar 7) (mVar 10)) (mCons (mIf (mBool (mOp2 fLe (mVar 10) (mVar 3))) (mOp2 fIx (mVar 6) (mOp2 fSub (mVar 3) (mVar 10))) (mD (.int 0))) mNil))))) 8)
 (mSeq (mRetF (mOp2F fCat (mFrzF (mLst (mCons (mOp2 fIx (mVar 6) (mVar 3)) mNil))) (mVar 8)))
 mNext))))))
def g_bank_ways : Fn := dDef 5 11 m_bank_ways
def m_bank_price_at : SM := (mSeq (mIfS (mNot (mTruth (mOp2 fIx (mProp 10 g_Web__first (mVar 0)) (mVar 4)))) (mSeq (mRet (mD .non))
 mNext) mNext)
 (mSeq (mAsg (mD .non) (fun d => setSl 5 (.d d)))
 (mSeq (mFor (mSrc (mRV (mCall g_bank_ways false (mCons (mVar 0) (mCons (mVar 1) (mCons (mVar 2) (mCons (mVar 3) (mCons (mVar 4) mNil)))))))) (fun d => setSl 6 (.d d)) (mSeq (mAsg (mRV (mCall g_bank_lesser false (mCons (mVar 5) (mCons (mVar 6) mNil)))) (fun d => setSl 5 (.d d)))
 mNext))
 (mSeq (mRet (mVar 5))
 mNext))))
def g_bank_price_at : Fn := dDef 5 7 m_bank_price_at
def m_bank_next : SM := (mSeq (mRet (mOpN fTuple (mCons (mFrzF (mComp [3] (mRng1 (mProp 10 g_Web__size (mVar 0))) (fun d => setSl 3 (.d d)) (M.pure true) (mRV (mCall g_bank_lesser false (mCons (mRV (mCall g_bank_owed false (mCons (mOp2 fIx (mProp 10 g_Web__dues (mVar 0)) (mVar 3)) mNil))) (mCons (mRV (mCall g_bank_price_at false (mCons (mVar 0) (mCons (mVar 1) (mCons (mVar 2) (mCons (mOpN fLen (mCons (mVar 1) mNil)) (mCons (mVar 3) mNil))))))) mNil)))))) mNil)))
 mNext)
def g_bank_next : Fn := dDef 3 4 m_bank_next
def m_bank_last : SM := (mSeq (mAsg (mOpN fTuple (mCons (mFrzF (mComp [4] (mSrc (mProp 10 g_Web__dues (mVar 0))) (fun d => setSl 4 (.d d)) (M.pure true) (mRV (mCall g_bank_owed false (mCons (mVar 4) mNil))))) mNil)) (fun d => setSl 2 (.d d)))
 (mSeq (mAsg (mRV (mCall g_bank_next false (mCons (mVar 0) (mCons (mVar 1) (mCons (mVar 2) mNil))))) (fun d => setSl 3 (.d d)))
 (mSeq (wL (mBool (mOp2 fNe (mVar 3) (mVar 2))) (mSeq (mAsg (mVar 3) (fun d => setSl 2 (.d d)))
 (mSeq (mAsg (mRV (mCall g_bank_next false (mCons (mVar 0) (mCons (mVar 1) (mCons (mVar 2) mNil))))) (fun d => setSl 3 (.d d)))
 mNext)) 5000)
 (mSeq (mRet (mVar 2))
 mNext))))
def g_bank_last : Fn := dDef 2 5 m_bank_last
def m_bank_rows_to : SM := (mSeq (mOwn (mLst mNil) 2)
 (mSeq (wL (mBool (mOp2 fLe (mOpN fLen (mCons (mVar 2) mNil)) (mVar 1))) (mSeq (mExpr (mMeth 2 fAppend (mCons (mRV (mCall g_bank_last false (mCons (mVar 0) (mCons (mVar 2) mNil)))) mNil)))
 mNext) 64)
 (mSeq (mRet (mOpN fTuple (mCons (mVar 2) mNil)))
 mNext)))
def g_bank_rows_to : Fn := dDef 2 3 m_bank_rows_to
def m_bank_rows : SM := (mSeq (mExpr (mRV (mCall g_need_web false (mCons (mVar 0) mNil))))
 (mSeq (mExpr (mRV (mCall g_need_integer false (mCons (mVar 1) (mCons (mD (.str "most")) mNil)))))
 (mSeq (mExpr (mRV (mCall g_need_from false (mCons (mVar 1) (mCons (mD (.int 0)) (mCons (mD (.str "most")) mNil))))))
 (mSeq (mExpr (mRV (mCall g_need_up_to false (mCons (mVar 1) (mCons (mD (.int 60)) (mCons (mD (.str "most")) mNil))))))
 (mSeq (mExpr (mRV (mCall g_need_up_to false (mCons (mProp 10 g_Web__greatest_due (mVar 0)) (mCons (mD (.int 1000000)) (mCons (mD (.str "the number of a due")) mNil))))))
 (mSeq (mRet (mRV (mCall g_bank_rows_to false (mCons (mVar 0) (mCons (mVar 1) mNil)))))
 mNext))))))
def g_bank_rows : Fn := dDef 2 2 m_bank_rows
def m_need_between : SM := (mSeq (mIfS (mOr (mBool (mOp2 fLt (mVar 0) (mVar 1))) (mBool (mOp2 fGt (mVar 0) (mVar 2)))) (mSeq (mRaise 2 (mCons (mJs [(mOp1 fFmt (mVar 3)), (mD (.str " must be from ")), (mOp1 fFmt (mVar 1)), (mD (.str " to ")), (mOp1 fFmt (mVar 2))] Str.empty) mNil))
 mNext) mNext)
 mNext)
def g_need_between : Fn := dDef 4 4 m_need_between
def m_need_made : SM := (mSeq (mExpr (mRV (mCall g_need_integer false (mCons (mVar 0) (mCons (mD (.str "the size of a web")) mNil)))))
 (mSeq (mExpr (mRV (mCall g_need_integer false (mCons (mVar 1) (mCons (mD (.str "a mark")) mNil)))))
 (mSeq (mExpr (mRV (mCall g_need_from false (mCons (mVar 0) (mCons (mD (.int 1)) (mCons (mD (.str "the size of a web")) mNil))))))
 (mSeq (mExpr (mRV (mCall g_need_between false (mCons (mVar 1) (mCons (mD (.int 1)) (mCons (mD (.int 2)) (mCons (mD (.str "a mark")) mNil)))))))
 (mSeq (mExpr (mRV (mCall g_need_up_to false (mCons (mVar 0) (mCons (mVar 2) (mCons (mD (.str "the size of a web")) mNil))))))
 mNext)))))
def g_need_made : Fn := dDef 3 3 m_need_made
def m_need_list : SM := (mSeq (mIfS (mNot (mTruth (mOp1 fIsLT (mVar 0)))) (mSeq (mRaise 1 (mCons (mJs [(mOp1 fFmt (mVar 1)), (mD (.str " must be a list or a tuple"))] Str.empty) mNil))
 mNext) mNext)
 mNext)
def g_need_list : Fn := dDef 2 2 m_need_list
def m_need_integers : SM := (mSeq (mExpr (mRV (mCall g_need_list false (mCons (mVar 0) (mCons (mVar 1) mNil)))))
 (mSeq (mFor (mSrc (mVar 0)) (fun d => setSl 2 (.d d)) (mSeq (mExpr (mRV (mCall g_need_integer false (mCons (mVar 2) (mCons (mJs [(mD (.str "each part of ")), (mOp1 fFmt (mVar 1))] Str.empty) mNil)))))
 mNext))
 mNext))
def g_need_integers : Fn := dDef 2 3 m_need_integers
def m_has_due_kind : SM := (mSeq (mIfS (mBool (mOp2 fIs (mVar 0) (mD .non))) (mSeq (mRet (mD (.bl true)))
 mNext) mNext)
 (mSeq (mIfS (mOr (mNot (mTruth (mOp1 fIsLT (mVar 0)))) (mBool (mOp2 fNe (mOpN fLen (mCons (mVar 0) mNil)) (mD (.int 2))))) (mSeq (mRet (mD (.bl false)))
 mNext) mNext)
 (mSeq (mRet (mAndV (mOp1 (fIsT 2) (mOp2 fIx (mVar 0) (mD (.int 0)))) (mRV (mCall g_is_integer false (mCons (mOp2 fIx (mVar 0) (mD (.int 1))) mNil)))))
 mNext)))
def g_has_due_kind : Fn := dDef 1 1 m_has_due_kind
def m__look_kinds : SM := (mSeq (mFor (mSrc (mTup (mCons (mVar 0) (mCons (mVar 1) mNil)))) (fun d => setSl 4 (.d d)) (mSeq (mExpr (mRV (mCall g_need_list false (mCons (mVar 4) (mCons (mD (.str "the steps of a web")) mNil)))))
 (mSeq (mFor (mSrc (mVar 4)) (fun d => setSl 5 (.d d)) (mSeq (mExpr (mRV (mCall g_need_integers false (mCons (mVar 5) (mCons (mD (.str "the steps of a stand")) mNil)))))
 mNext))
 mNext)))
 (mSeq (mExpr (mRV (mCall g_need_integers false (mCons (mVar 2) (mCons (mD (.str "the marks")) mNil)))))
 (mSeq (mExpr (mRV (mCall g_need_list false (mCons (mVar 3) (mCons (mD (.str "the dues")) mNil)))))
 (mSeq (mFor (mSrc (mVar 3)) (fun d => setSl 6 (.d d)) (mSeq (mIfS (mNot (mTruth (mRV (mCall g_has_due_kind false (mCons (mVar 6) mNil))))) (mSeq (mRaise 1 (mCons (mD (.str "a due is None or a pair of a text and an integer")) mNil))
 mNext) mNext)
 mNext))
 mNext))))
def g__look_kinds : Fn := dDef 4 7 m__look_kinds
def m_has_due_range : SM := (mSeq (mRet (mOrV (mOp2 fIs (mVar 0) (mD .non)) (mAndV (mOp2 fIn (mOp2 fIx (mVar 0) (mD (.int 0))) (mTup (mCons (mD (.str "chips")) (mCons (mD (.str "less")) mNil)))) (mOp2 fGe (mOp2 fIx (mVar 0) (mD (.int 1))) (mD (.int 0))))))
 mNext)
def g_has_due_range : Fn := dDef 1 1 m_has_due_range
def m__look_stand : SM := (mSeq (mIfS (mBool (mOp2 fNe (mOpN fBool (mCons (mVar 1) mNil)) (mOpN fBool (mCons (mVar 2) mNil)))) (mSeq (mRaise 3 (mCons (mD (.str "a stand has steps for both hands or for none")) mNil))
 mNext) mNext)
 (mSeq (mFor (mSrc (mFrzF (mOp2F fCat (mFrzF (mOpF fList (mCons (mVar 1) mNil))) (mFrzF (mOpF fList (mCons (mVar 2) mNil)))))) (fun d => setSl 5 (.d d)) (mSeq (mIfS (mOr (mBool (mOp2 fLt (mVar 5) (mD (.int 0)))) (mBool (mOp2 fGe (mVar 5) (mVar 0)))) (mSeq (mRaise 3 (mCons (mD (.str "a step leads to a stand of the web")) mNil))
 mNext) mNext)
 mNext))
 (mSeq (mIfS (mAnd (mBool (mOp2 fNe (mVar 3) (mD (.int 1)))) (mBool (mOp2 fNe (mVar 3) (mD (.int 2))))) (mSeq (mRaise 3 (mCons (mD (.str "a mark is 1 or 2")) mNil))
 mNext) mNext)
 (mSeq (mIfS (mNot (mTruth (mRV (mCall g_has_due_range false (mCons (mVar 4) mNil))))) (mSeq (mRaise 3 (mCons (mD (.str "a due's word is chips or less, its number at least 0")) mNil))
 mNext) mNext)
 mNext))))
def g__look_stand : Fn := dDef 5 6 m__look_stand
def m__look_web : SM := (mSeq (mAsg (mOpN fLen (mCons (mVar 2) mNil)) (fun d => setSl 4 (.d d)))
 (mSeq (mIfS (mOr (mBool (mOp2 fEq (mVar 4) (mD (.int 0)))) (mOr (mBool (mOp2 fNe (mOpN fLen (mCons (mVar 0) mNil)) (mVar 4))) (mOr (mBool (mOp2 fNe (mOpN fLen (mCons (mVar 1) mNil)) (mVar 4))) (mBool (mOp2 fNe (mOpN fLen (mCons (mVar 3) mNil)) (mVar 4)))))) (mSeq (mRaise 3 (mCons (mD (.str "the four lists of a web have one length, at least 1")) mNil))
 mNext) mNext)
 (mSeq (mFor (mRng1 (mVar 4)) (fun d => setSl 5 (.d d)) (mSeq (mExpr (mRV (mCall g__look_stand false (mCons (mVar 4) (mCons (mOp2 fIx (mVar 0) (mVar 5)) (mCons (mOp2 fIx (mVar 1) (mVar 5)) (mCons (mOp2 fIx (mVar 2) (mVar 5)) (mCons (mOp2 fIx (mVar 3) (mVar 5)) mNil))))))))
 mNext))
 (mSeq (mExpr (mRV (mCall g_need_up_to false (mCons (mVar 4) (mCons (mD (.int 60)) (mCons (mD (.str "the number of stands")) mNil))))))
 (mSeq (mFor (mSrc (mVar 3)) (fun d => setSl 6 (.d d)) (mSeq (mIfS (mBool (mOp2 fIsNot (mVar 6) (mD .non))) (mSeq (mExpr (mRV (mCall g_need_up_to false (mCons (mOp2 fIx (mVar 6) (mD (.int 1))) (mCons (mD (.int 10000000000000000000000000000000000000000)) (mCons (mD (.str "the number of a due")) mNil))))))
 mNext) mNext)
 mNext))
 mNext)))))
def g__look_web : Fn := dDef 4 7 m__look_web
def m_kept_due : SM := (mSeq (mRet (mIf (mBool (mOp2 fIs (mVar 0) (mD .non))) (mD .non) (mTup (mCons (mOp2 fIx (mVar 0) (mD (.int 0))) (mCons (mOp2 fIx (mVar 0) (mD (.int 1))) mNil)))))
 mNext)
def g_kept_due : Fn := dDef 1 1 m_kept_due
def m_Web____init__ : SM := (mSeq (mExpr (mRV (mCall g__look_kinds false (mCons (mVar 1) (mCons (mVar 2) (mCons (mVar 3) (mCons (mVar 4) mNil)))))))
 (mSeq (mExpr (mRV (mCall g__look_web false (mCons (mVar 1) (mCons (mVar 2) (mCons (mVar 3) (mCons (mVar 4) mNil)))))))
 (mSeq (mSetF 0 10 2 (mOpN fTuple (mCons (mFrzF (mComp [5] (mSrc (mVar 1)) (fun d => setSl 5 (.d d)) (M.pure true) (mOpN fTuple (mCons (mFrzF (mSortedSet (mVar 5))) mNil)))) mNil)))
 (mSeq (mSetF 0 10 6 (mOpN fTuple (mCons (mFrzF (mComp [5] (mSrc (mVar 2)) (fun d => setSl 5 (.d d)) (M.pure true) (mOpN fTuple (mCons (mFrzF (mSortedSet (mVar 5))) mNil)))) mNil)))
 (mSeq (mSetF 0 10 4 (mOpN fTuple (mCons (mVar 3) mNil)))
 (mSeq (mSetF 0 10 0 (mOpN fTuple (mCons (mFrzF (mComp [6] (mSrc (mVar 4)) (fun d => setSl 6 (.d d)) (M.pure true) (mRV (mCall g_kept_due false (mCons (mVar 6) mNil))))) mNil)))
 (mSeq (mSetF 0 10 1 (mOpN fTuple (mCons (mFrzF (mComp [7] (mRng1 (mOpN fLen (mCons (mVar 3) mNil))) (fun d => setSl 7 (.d d)) (mNot (mTruth (mOp2 fIx (mVar 1) (mVar 7)))) (mVar 7))) mNil)))
 (mSeq (mSetF 0 10 5 (mOpN fTuple (mCons (mFrzF (mComp [7] (mRng1 (mOpN fLen (mCons (mVar 3) mNil))) (fun d => setSl 7 (.d d)) (mTruth (mOp2 fIx (mVar 1) (mVar 7))) (mVar 7))) mNil)))
 (mSeq (mSetF 0 10 3 (mOpN fMax (mCons (mFrzF (mOp2F fCat (mFrzF (mLst (mCons (mD (.int 0)) mNil))) (mFrzF (mComp [6] (mSrc (mSelf 0 10 0)) (fun d => setSl 6 (.d d)) (mBool (mOp2 fIsNot (mVar 6) (mD .non))) (mOp2 fIx (mVar 6) (mD (.int 1))))))) mNil)))
 mNext)))))))))
def g_Web____init__ : Fn := dDef 5 8 m_Web____init__
def m_Web__line : SM := (mSeq (mExpr (mRV (mCall g_need_made false (mCons (mVar 1) (mCons (mVar 2) (mCons (mOp2 fSub (mD (.int 60)) (mD (.int 1))) mNil))))))
 (mSeq (mAsg (mFrzF (mOp2F fCat (mFrzF (mOp2F fCat (mFrzF (mLst (mCons (mFrzF (mLst mNil)) mNil))) (mFrzF (mComp [4] (mRng2 (mD (.int 1)) (mVar 1)) (fun d => setSl 4 (.d d)) (M.pure true) (mFrzF (mLst (mCons (mOp2 fSub (mVar 4) (mD (.int 1))) (mCons (mOp2 fAdd (mVar 4) (mD (.int 1))) mNil)))))))) (mFrzF (mLst (mCons (mFrzF (mLst mNil)) mNil))))) (fun d => setSl 3 (.d d)))
 (mSeq (mRet (mMakeL 0 10 7 g_Web____init__ (mCons (mVar 3) (mCons (mVar 3) (mCons (mFrzF (mOp2F fRep (mFrzF (mLst (mCons (mVar 2) mNil))) (mOp2 fAdd (mVar 1) (mD (.int 1))))) (mCons (mFrzF (mOp2F fCat (mFrzF (mLst (mCons (mTup (mCons (mD (.str "chips")) (mCons (mD (.int 0)) mNil))) mNil))) (mFrzF (mOp2F fRep (mFrzF (mLst (mCons (mD .non) mNil))) (mVar 1))))) mNil))))))
 mNext)))
def g_Web__line : Fn := dDef 3 5 m_Web__line
def m_golden_root : SM := (mSeq (mIfS (mBool (mOp2 fEq (mVar 0) (mD (.int 0)))) (mSeq (mRet (mD (.int 0)))
 mNext) mNext)
 (mSeq (mAsg (mOp2 fShl (mD (.int 1)) (mOp2 fDiv (mOp2 fAdd (mOp1 fBits (mVar 0)) (mD (.int 1))) (mD (.int 2)))) (fun d => setSl 1 (.d d)))
 (mSeq (mAsg (mOp2 fDiv (mOp2 fAdd (mVar 1) (mOp2 fDiv (mVar 0) (mVar 1))) (mD (.int 2))) (fun d => setSl 2 (.d d)))
 (mSeq (wL (mBool (mOp2 fLt (mVar 2) (mVar 1))) (mSeq (mAsg (mVar 2) (fun d => setSl 1 (.d d)))
 (mSeq (mAsg (mOp2 fDiv (mOp2 fAdd (mVar 1) (mOp2 fDiv (mVar 0) (mVar 1))) (mD (.int 2))) (fun d => setSl 2 (.d d)))
 mNext)) 600)
 (mSeq (mRet (mVar 1))
 mNext)))))
def g_golden_root : Fn := dDef 1 3 m_golden_root
def m_golden_base : SM := (mSeq (mRet (mOp2 fDiv (mOp2 fSub (mRV (mCall g_golden_root false (mCons (mOp2 fMul (mOp2 fMul (mD (.int 5)) (mVar 0)) (mVar 0)) mNil))) (mVar 0)) (mD (.int 2))))
 mNext)
def g_golden_base : Fn := dDef 1 1 m_golden_base
def m_golden_number : SM := (mSeq (mExpr (mRV (mCall g_need_integer false (mCons (mVar 0) (mCons (mD (.str "the mark")) mNil)))))
 (mSeq (mExpr (mRV (mCall g_need_integer false (mCons (mVar 1) (mCons (mD (.str "b")) mNil)))))
 (mSeq (mExpr (mRV (mCall g_need_integer false (mCons (mVar 2) (mCons (mD (.str "the stand")) mNil)))))
 (mSeq (mExpr (mRV (mCall g_need_between false (mCons (mVar 0) (mCons (mD (.int 1)) (mCons (mD (.int 2)) (mCons (mD (.str "the mark")) mNil)))))))
 (mSeq (mExpr (mRV (mCall g_need_from false (mCons (mVar 1) (mCons (mD (.int 0)) (mCons (mD (.str "b")) mNil))))))
 (mSeq (mExpr (mRV (mCall g_need_between false (mCons (mVar 2) (mCons (mD (.int 1)) (mCons (mD (.int 2)) (mCons (mD (.str "the stand")) mNil)))))))
 (mSeq (mExpr (mRV (mCall g_need_up_to false (mCons (mVar 1) (mCons (mD (.int 10000000000000000000000000000000000000000)) (mCons (mD (.str "b")) mNil))))))
 (mSeq (mIfS (mBool (mOp2 fEq (mVar 0) (mD (.int 1)))) (mSeq (mAsg (mRV (mCall g_golden_base false (mCons (mVar 1) mNil))) (fun d => setSl 3 (.d d)))
 (mSeq (mRet (mIf (mBool (mOp2 fEq (mVar 2) (mD (.int 1)))) (mVar 3) (mOp2 fAdd (mVar 1) (mVar 3))))
 mNext)) mNext)
 (mSeq (mAsg (mOp2 fAdd (mRV (mCall g_golden_base false (mCons (mOp2 fAdd (mVar 1) (mD (.int 1))) mNil))) (mD (.int 1))) (fun d => setSl 3 (.d d)))
 (mSeq (mRet (mIf (mBool (mOp2 fEq (mVar 2) (mD (.int 1)))) (mVar 3) (mOp2 fAdd (mOp2 fAdd (mVar 1) (mD (.int 1))) (mVar 3))))
 mNext))))))))))
def g_golden_number : Fn := dDef 3 4 m_golden_number
def m__law_whole : SM := (mSeq (mRet (mAndV (mOp1 (fIsT 0) (mVar 0)) (mNotV (mOp1 (fIsT 1) (mVar 0)))))
 mNext)
def g__law_whole : Fn := dDef 1 1 m__law_whole
def m_need_stand : SM := (mSeq (mExpr (mRV (mCall g_need_between false (mCons (mVar 1) (mCons (mD (.int 0)) (mCons (mOp2 fSub (mProp 10 g_Web__size (mVar 0)) (mD (.int 1))) (mCons (mD (.str "a stand")) mNil)))))))
 mNext)
def g_need_stand : Fn := dDef 2 2 m_need_stand
def m_need_bank_against : SM := (mSeq (mExpr (mRV (mCall g_need_up_to false (mCons (mVar 1) (mCons (mD (.int 60)) (mCons (mD (.str "b")) mNil))))))
 (mSeq (mExpr (mRV (mCall g_need_up_to false (mCons (mProp 10 g_Web__greatest_due (mVar 0)) (mCons (mD (.int 1000000)) (mCons (mD (.str "the number of a due")) mNil))))))
 mNext))
def g_need_bank_against : Fn := dDef 2 2 m_need_bank_against
def m_bank_against : SM := (mSeq (mExpr (mRV (mCall g_need_web false (mCons (mVar 0) mNil))))
 (mSeq (mExpr (mRV (mCall g_need_integer false (mCons (mVar 1) (mCons (mD (.str "the stand")) mNil)))))
 (mSeq (mExpr (mRV (mCall g_need_integer false (mCons (mVar 2) (mCons (mD (.str "b")) mNil)))))
 (mSeq (mExpr (mRV (mCall g_need_stand false (mCons (mVar 0) (mCons (mVar 1) mNil)))))
 (mSeq (mExpr (mRV (mCall g_need_from false (mCons (mVar 2) (mCons (mD (.int 0)) (mCons (mD (.str "b")) mNil))))))
 (mSeq (mExpr (mRV (mCall g_need_bank_against false (mCons (mVar 0) (mCons (mVar 2) mNil)))))
 (mSeq (mRet (mOp2 fIx (mOp2 fIx (mRV (mCall g_bank_rows_to false (mCons (mVar 0) (mCons (mVar 2) mNil)))) (mVar 2)) (mVar 1)))
 mNext)))))))
def g_bank_against : Fn := dDef 3 3 m_bank_against
def m__law_great : SM := (mSeq (mAsg (mD (.int 0)) (fun d => setSl 1 (.d d)))
 (mSeq (mFor (mRng1 (mOp2 fIx (mFrzF (mLst (mCons (mD (.int 1)) (mCons (mD (.int 4)) (mCons (mD (.int 12)) (mCons (mD (.int 26)) mNil)))))) (mRV (mCall g__law_draw true (mCons (mVar 0) (mCons (mD (.int 4)) mNil)))))) (fun d => setSl 2 (.d d)) (mSeq (mAsg (mOp2 fAdd (mOp2 fMul (mVar 1) (mD (.int 30))) (mRV (mCall g__law_draw true (mCons (mVar 0) (mCons (mD (.int 30)) mNil))))) (fun d => setSl 1 (.d d)))
 mNext))
 (mSeq (mRet (mVar 1))
 mNext)))
def g__law_great : Fn := dDef 1 3 m__law_great
def m__law_is_share : SM := (mSeq (mIfS (mBool (mOp2 fGt (mOp2 fMul (mVar 0) (mOp2 fAdd (mVar 0) (mVar 1))) (mOp2 fMul (mVar 1) (mVar 1)))) (mSeq (mRet (mD (.bl false)))
 mNext) mNext)
 (mSeq (mRet (mOp2 fGt (mOp2 fMul (mOp2 fAdd (mVar 0) (mD (.int 1))) (mOp2 fAdd (mOp2 fAdd (mVar 0) (mD (.int 1))) (mVar 1))) (mOp2 fMul (mVar 1) (mVar 1))))
 mNext))
def g__law_is_share : Fn := dDef 2 2 m__law_is_share
def m_whole_root : SM := (mSeq (mExpr (mRV (mCall g_need_integer false (mCons (mVar 0) (mCons (mD (.str "the number")) mNil)))))
 (mSeq (mExpr (mRV (mCall g_need_from false (mCons (mVar 0) (mCons (mD (.int 0)) (mCons (mD (.str "the number")) mNil))))))
 (mSeq (mRet (mRV (mCall g_golden_root false (mCons (mVar 0) mNil))))
 mNext)))
def g_whole_root : Fn := dDef 1 1 m_whole_root
def m_law_1 : SM := (mOwn (mRVF (mCall g__law_pot false (mCons (mVar 0) mNil))) 1)
def m_law_2 : SM := (mAsg (mOp2 fAdd (mD (.int 1)) (mRV (mCall g__law_draw true (mCons (mVar 1) (mCons (mD (.int 2)) mNil))))) (fun d => setSl 2 (.d d)))
def m_law_3 : SM := (mAsg (mFrzF (mLst (mCons (mFrzF (mLst (mCons (mFrzF (mLst mNil)) (mCons (mFrzF (mLst (mCons (mD (.int 0)) (mCons (mD (.int 2)) mNil)))) (mCons (mFrzF (mLst (mCons (mD (.int 1)) (mCons (mD (.int 3)) mNil)))) (mCons (mFrzF (mLst mNil)) mNil)))))) (mCons (mFrzF (mLst (mCons (mFrzF (mLst mNil)) (mCons (mFrzF (mLst (mCons (mD (.int 0)) (mCons (mD (.int 2)) mNil)))) (mCons (mFrzF (mLst (mCons (mD (.int 1)) (mCons (mD (.int 3)) mNil)))) (mCons (mFrzF (mLst mNil)) mNil)))))) (mCons (mFrzF (mOp2F fRep (mFrzF (mLst (mCons (mVar 2) mNil))) (mD (.int 4)))) (mCons (mFrzF (mLst (mCons (mTup (mCons (mD (.str "chips")) (mCons (mD (.int 0)) mNil))) (mCons (mD .non) (mCons (mD .non) (mCons (mD .non) mNil)))))) mNil)))))) (fun d => setSl 3 (.d d)))
def m_law_4 : SM := (mAsg (mRV (mCall g__law_draw true (mCons (mVar 1) (mCons (mD (.int 15)) mNil)))) (fun d => setSl 4 (.d d)))
def m_law_5 : SM := (mAsg (mRV (mCall g__law_bank_rows false (mCons (mVar 3) (mCons (mVar 4) mNil)))) (fun d => setSl 5 (.d d)))
def m_law_6 : SM := (mAsg (mRV (mCall g_bank_rows false (mCons (mRV (mCMeth 10 g_Web__line (mCons (mD (.int 3)) (mCons (mVar 2) mNil)))) (mCons (mVar 4) mNil)))) (fun d => setSl 6 (.d d)))
def m_law_7 : SM := (mFor (mRng1 (mOp2 fAdd (mVar 4) (mD (.int 1)))) (fun d => setSl 7 (.d d)) (mSeq (mIfS (mOr (mBool (mOp2 fNe (mOp2 fIx (mOp2 fIx (mVar 6) (mVar 7)) (mD (.int 0))) (mD (.int 0)))) (mBool (mOp2 fIsNot (mOp2 fIx (mOp2 fIx (mVar 6) (mVar 7)) (mD (.int 3))) (mD .non)))) (mSeq (mRet (mD (.bl false)))
 mNext) mNext)
 (mSeq (mFor (mSrc (mFrzF (mLst (mCons (mD (.int 1)) (mCons (mD (.int 2)) mNil))))) (fun d => setSl 8 (.d d)) (mSeq (mAsg (mRV (mCall g_golden_number false (mCons (mVar 2) (mCons (mVar 7) (mCons (mVar 8) mNil))))) (fun d => setSl 9 (.d d)))
 (mSeq (mIfS (mOr (mNot (mTruth (mRV (mCall g__law_whole false (mCons (mVar 9) mNil))))) (mOr (mBool (mOp2 fNe (mVar 9) (mOp2 fIx (mOp2 fIx (mVar 5) (mVar 7)) (mVar 8)))) (mBool (mOp2 fNe (mOp2 fIx (mOp2 fIx (mVar 6) (mVar 7)) (mVar 8)) (mVar 9))))) (mSeq (mRet (mD (.bl false)))
 mNext) mNext)
 mNext)))
 mNext)))
def m_law_8 : SM := (mIfS (mBool (mOp2 fNe (mRV (mCall g_bank_against false (mCons (mRV (mCMeth 10 g_Web__line (mCons (mD (.int 3)) (mCons (mVar 2) mNil)))) (mCons (mD (.int 1)) (mCons (mVar 4) mNil))))) (mOp2 fIx (mOp2 fIx (mVar 5) (mVar 4)) (mD (.int 1))))) (mSeq (mRet (mD (.bl false)))
 mNext) mNext)
def m_law_9 : SM := (mAsg (mRV (mCall g__law_great true (mCons (mVar 1) mNil))) (fun d => setSl 7 (.d d)))
def m_law_10 : SM := (mAsg (mRV (mCall g_golden_number false (mCons (mD (.int 1)) (mCons (mVar 7) (mCons (mD (.int 1)) mNil))))) (fun d => setSl 10 (.d d)))
def m_law_11 : SM := (mIfS (mOr (mNot (mTruth (mRV (mCall g__law_is_share false (mCons (mVar 10) (mCons (mVar 7) mNil)))))) (mBool (mOp2 fNe (mRV (mCall g_golden_number false (mCons (mD (.int 1)) (mCons (mVar 7) (mCons (mD (.int 2)) mNil))))) (mOp2 fAdd (mVar 7) (mVar 10))))) (mSeq (mRet (mD (.bl false)))
 mNext) mNext)
def m_law_12 : SM := (mAsg (mRV (mCall g_golden_number false (mCons (mD (.int 1)) (mCons (mOp2 fAdd (mVar 7) (mD (.int 1))) (mCons (mD (.int 1)) mNil))))) (fun d => setSl 11 (.d d)))
def m_law_13 : SM := (mIfS (mOr (mNot (mTruth (mRV (mCall g__law_is_share false (mCons (mVar 11) (mCons (mOp2 fAdd (mVar 7) (mD (.int 1))) mNil)))))) (mBool (mOp2 fNotIn (mOp2 fSub (mVar 11) (mVar 10)) (mTup (mCons (mD (.int 0)) (mCons (mD (.int 1)) mNil)))))) (mSeq (mRet (mD (.bl false)))
 mNext) mNext)
def m_law_14 : SM := (mIfS (mOr (mBool (mOp2 fNe (mRV (mCall g_golden_number false (mCons (mD (.int 2)) (mCons (mVar 7) (mCons (mD (.int 1)) mNil))))) (mOp2 fAdd (mVar 11) (mD (.int 1))))) (mBool (mOp2 fNe (mRV (mCall g_golden_number false (mCons (mD (.int 2)) (mCons (mVar 7) (mCons (mD (.int 2)) mNil))))) (mOp2 fAdd (mOp2 fAdd (mVar 7) (mVar 11)) (mD (.int 2)))))) (mSeq (mRet (mD (.bl false)))
 mNext) mNext)
def m_law_15 : SM := (mAsg (mRV (mCall g__law_great true (mCons (mVar 1) mNil))) (fun d => setSl 12 (.d d)))
def m_law_16 : SM := (mAsg (mRV (mCall g_whole_root false (mCons (mVar 12) mNil))) (fun d => setSl 13 (.d d)))
def m_law_17 : SM := (mIfS (mOr (mNot (mTruth (mRV (mCall g__law_whole false (mCons (mVar 13) mNil))))) (mOr (mBool (mOp2 fGt (mOp2 fMul (mVar 13) (mVar 13)) (mVar 12))) (mBool (mOp2 fLe (mOp2 fMul (mOp2 fAdd (mVar 13) (mD (.int 1))) (mOp2 fAdd (mVar 13) (mD (.int 1)))) (mVar 12))))) (mSeq (mRet (mD (.bl false)))
 mNext) mNext)
def m_law_18 : SM := (mIfS (mOr (mBool (mOp2 fNe (mRV (mCall g_whole_root false (mCons (mOp2 fMul (mVar 12) (mVar 12)) mNil))) (mVar 12))) (mBool (mOp2 fNe (mRV (mCall g_whole_root false (mCons (mOp2 fAdd (mOp2 fMul (mVar 12) (mVar 12)) (mOp2 fMul (mD (.int 2)) (mVar 12))) mNil))) (mVar 12)))) (mSeq (mRet (mD (.bl false)))
 mNext) mNext)
def m_law_19 : SM := (mRet (mOrV (mOp2 fEq (mVar 12) (mD (.int 0))) (mOp2 fEq (mRV (mCall g_whole_root false (mCons (mOp2 fSub (mOp2 fMul (mVar 12) (mVar 12)) (mD (.int 1))) mNil))) (mOp2 fSub (mVar 12) (mD (.int 1))))))
def m_law : SM := (mSeq m_law_1 (mSeq m_law_2 (mSeq m_law_3 (mSeq m_law_4 (mSeq m_law_5 (mSeq m_law_6 (mSeq m_law_7 (mSeq m_law_8 (mSeq m_law_9 (mSeq m_law_10 (mSeq m_law_11 (mSeq m_law_12 (mSeq m_law_13 (mSeq m_law_14 (mSeq m_law_15 (mSeq m_law_16 (mSeq m_law_17 (mSeq m_law_18 (mSeq m_law_19 mNext)))))))))))))))))))
def g_law : Fn := dDef 1 14 m_law
end K64
end VL

set_option Elab.async false
set_option linter.all false
set_option maxRecDepth 100000
set_option maxHeartbeats 0
namespace VL
open PySem PySem.Spec L2 He He5
namespace K64
/-! the part of the law that leans on the mark and on most alone -/
def path (m : Int) : D := .lst [.lst [.lst [], .lst [.int 0, .int 2], .lst [.int 1, .int 3], .lst []], .lst [.lst [], .lst [.int 0, .int 2], .lst [.int 1, .int 3], .lst []], .lst [.int m, .int m, .int m, .int m], .lst [.tup [.str "chips", .int 0], .non, .non, .non]]
def seg : SM := mSeq m_law_5 (mSeq m_law_6 (mSeq m_law_7 m_law_8))
def env0 (ps : List D) (m k : Int) (x : D) : En := [.d x, .own ps, .d (.int m), .d (path m), .d (.int k), .un, .un, .un, .un, .un, .un, .un, .un, .un]
/-- what stands behind it: the pot -/
def behind : SRes → Option (List D)
  | .nx [.d _, .own ps, .d _, .d _, .d _, .d _, .d _, .d _, .d _, .d _, .un, .un, .un, .un] => some ps
  | _ => none
theorem seg_1_0 (ps : List D) (x : D) : behind (seg (env0 ps 1 0 x)) = some ps := by kernel_rfl
theorem seg_1_1 (ps : List D) (x : D) : behind (seg (env0 ps 1 1 x)) = some ps := by kernel_rfl
theorem seg_1_2 (ps : List D) (x : D) : behind (seg (env0 ps 1 2 x)) = some ps := by kernel_rfl
theorem seg_1_3 (ps : List D) (x : D) : behind (seg (env0 ps 1 3 x)) = some ps := by kernel_rfl
theorem seg_1_4 (ps : List D) (x : D) : behind (seg (env0 ps 1 4 x)) = some ps := by kernel_rfl
theorem seg_1_5 (ps : List D) (x : D) : behind (seg (env0 ps 1 5 x)) = some ps := by kernel_rfl
theorem seg_1_6 (ps : List D) (x : D) : behind (seg (env0 ps 1 6 x)) = some ps := by kernel_rfl
theorem seg_1_7 (ps : List D) (x : D) : behind (seg (env0 ps 1 7 x)) = some ps := by kernel_rfl
theorem seg_1_8 (ps : List D) (x : D) : behind (seg (env0 ps 1 8 x)) = some ps := by kernel_rfl
theorem seg_1_9 (ps : List D) (x : D) : behind (seg (env0 ps 1 9 x)) = some ps := by kernel_rfl
theorem seg_1_10 (ps : List D) (x : D) : behind (seg (env0 ps 1 10 x)) = some ps := by kernel_rfl
theorem seg_1_11 (ps : List D) (x : D) : behind (seg (env0 ps 1 11 x)) = some ps := by kernel_rfl
theorem seg_1_12 (ps : List D) (x : D) : behind (seg (env0 ps 1 12 x)) = some ps := by kernel_rfl
theorem seg_1_13 (ps : List D) (x : D) : behind (seg (env0 ps 1 13 x)) = some ps := by kernel_rfl
theorem seg_1_14 (ps : List D) (x : D) : behind (seg (env0 ps 1 14 x)) = some ps := by kernel_rfl
theorem seg_2_0 (ps : List D) (x : D) : behind (seg (env0 ps 2 0 x)) = some ps := by kernel_rfl
theorem seg_2_1 (ps : List D) (x : D) : behind (seg (env0 ps 2 1 x)) = some ps := by kernel_rfl
theorem seg_2_2 (ps : List D) (x : D) : behind (seg (env0 ps 2 2 x)) = some ps := by kernel_rfl
theorem seg_2_3 (ps : List D) (x : D) : behind (seg (env0 ps 2 3 x)) = some ps := by kernel_rfl
theorem seg_2_4 (ps : List D) (x : D) : behind (seg (env0 ps 2 4 x)) = some ps := by kernel_rfl
theorem seg_2_5 (ps : List D) (x : D) : behind (seg (env0 ps 2 5 x)) = some ps := by kernel_rfl
theorem seg_2_6 (ps : List D) (x : D) : behind (seg (env0 ps 2 6 x)) = some ps := by kernel_rfl
theorem seg_2_7 (ps : List D) (x : D) : behind (seg (env0 ps 2 7 x)) = some ps := by kernel_rfl
theorem seg_2_8 (ps : List D) (x : D) : behind (seg (env0 ps 2 8 x)) = some ps := by kernel_rfl
theorem seg_2_9 (ps : List D) (x : D) : behind (seg (env0 ps 2 9 x)) = some ps := by kernel_rfl
theorem seg_2_10 (ps : List D) (x : D) : behind (seg (env0 ps 2 10 x)) = some ps := by kernel_rfl
theorem seg_2_11 (ps : List D) (x : D) : behind (seg (env0 ps 2 11 x)) = some ps := by kernel_rfl
theorem seg_2_12 (ps : List D) (x : D) : behind (seg (env0 ps 2 12 x)) = some ps := by kernel_rfl
theorem seg_2_13 (ps : List D) (x : D) : behind (seg (env0 ps 2 13 x)) = some ps := by kernel_rfl
theorem seg_2_14 (ps : List D) (x : D) : behind (seg (env0 ps 2 14 x)) = some ps := by kernel_rfl
end K64
end VL

set_option Elab.async false
set_option linter.all false
set_option maxRecDepth 100000
set_option maxHeartbeats 4000000
namespace VL
open PySem PySem.Spec L2 He He5
namespace K64
def rootM (lp : SM) : SM := mSeq (mIfS (mBool (mOp2 fEq (mVar 0) (mD (.int 0)))) (mSeq (mRet (mD (.int 0))) mNext) mNext)
      (mSeq (mAsg (mOp2 fShl (mD (.int 1)) (mOp2 fDiv (mOp2 fAdd (mOp1 fBits (mVar 0)) (mD (.int 1))) (mD (.int 2)))) (fun d => setSl 1 (.d d)))
      (mSeq (mAsg (mOp2 fDiv (mOp2 fAdd (mVar 1) (mOp2 fDiv (mVar 0) (mVar 1))) (mD (.int 2))) (fun d => setSl 2 (.d d)))
      (mSeq lp (mSeq (mRet (mVar 1)) mNext))))
theorem root_run {n r s : Int} {lp : SM} (hn : n ≠ 0) (gd : ∀ i : Int, cDiv i r = true) (gs : cShl 1 ((((Builtin.Int.intBits n : Nat) : Int) + 1) / 2) = true) (hk : 1 * 2 ^ ((((Builtin.Int.intBits n : Nat) : Int) + 1) / 2).toNat = r) (hl2 : lp (rootE n r) = .nx (rootE n s)) :
    finD none (rootM lp [.d (.int n), .un, .un]) = .ok (.d (.int s)) none := by
  unfold rootE at hl2
  have h0 : (n == 0) = false := by simp [hn]
  simp only [rootM, mSeq, mIfS, mBool, mOp2, mOp1, mVar, mD, M.bind, M.bindS, M.pure, M.lift, view, frz, f2i, fEq_int, h0, fAdd, fBits, M.nxt, setSl, fr_d, fr_un, mNext, cDiv_2, gd, gs, hk, mAsg, mRet, finD, finOk, spcOut, hl2, List.getElem?_cons_zero, List.getElem?_cons_succ, List.set_cons_zero, List.set_cons_succ, if_true, Bool.false_eq_true, if_false, reduceIte]
theorem golden_root_ok {n : Int} (h0 : 0 ≤ n) (h1 : n < 2 ^ 1000) : ∃ s : Int, 0 ≤ s ∧ s * s ≤ n ∧ n < (s + 1) * (s + 1) ∧ g_golden_root none [.int n] = .ok (.d (.int s)) none := by
  by_cases hn : n = 0
  · subst hn
    exact ⟨0, by decide, by decide, by decide, rfl⟩
  · obtain ⟨s0, e1, e2⟩ := isqrt_ex n.toNat
    obtain ⟨s, hs⟩ : ∃ s : Int, s = s0 := ⟨_, rfl⟩
    have f0 : 0 ≤ s := by omega
    have hnn : ((n.toNat : Nat) : Int) = n := by omega
    have f1 : s * s ≤ n := by
      have := Int.ofNat_le.mpr e1
      rw [Int.natCast_mul, ← hs, hnn] at this; exact this
    have f2 : n < (s + 1) * (s + 1) := by
      have := Int.ofNat_lt.mpr e2
      rw [Int.natCast_mul, Int.natCast_add, ← hs, hnn] at this; exact this
    have fs : 0 < s := by
      rcases Int.lt_or_eq_of_le f0 with h | h
      · exact h
      · rw [← h] at f2; omega
    refine ⟨s, f0, f1, f2, ?_⟩
    obtain ⟨b1, b2⟩ := intBits_lt (n := n) (by omega)
    have b3 : Builtin.Int.intBits n ≤ 1000 := by
      refine intBits_le' (by decide) ?_
      have e : ((2 ^ 1000 : Nat) : Int) = (2 : Int) ^ 1000 := by rw [Int.natCast_pow]; rfl
      omega
    obtain ⟨k, hk⟩ : ∃ k : Nat, k = (((Builtin.Int.intBits n : Nat) : Int) + 1).toNat / 2 := ⟨_, rfl⟩
    have hk' : ((((Builtin.Int.intBits n : Nat) : Int) + 1) / 2).toNat = k := by omega
    have hk2 : Builtin.Int.intBits n ≤ k + k := by omega
    have hk3 : k ≤ 500 := by omega
    have hroot : s < 2 ^ k := by
      have h3 : n < 2 ^ k * 2 ^ k := by
        rw [← Int.pow_add]
        refine Int.lt_of_lt_of_le b1 ?_
        have h := Nat.pow_le_pow_right (n := 2) (by decide) hk2
        have h := Int.ofNat_le.mpr h
        rw [Int.natCast_pow, Int.natCast_pow] at h
        exact h
      rcases Int.lt_or_le s (2 ^ k) with h | h
      · exact h
      · have h5 : (0 : Int) ≤ 2 ^ k := two_pow_nn k
        have := Int.mul_self_le_mul_self h5 h
        omega
    have p1 : (2 : Int) ^ k < 2 ^ 599 := by
      have h := Nat.pow_lt_pow_right (a := 2) (by decide) (show k < 599 by omega)
      have h := Int.ofNat_lt.mpr h
      rw [Int.natCast_pow, Int.natCast_pow] at h
      exact h
    have p2 : (2 : Int) ^ k < 2 ^ 8192 := Int.lt_of_lt_of_le p1 (pow_lt_wide (by decide))
    have hloop := root_loop fs f1 f2 599 (2 ^ k) (by omega) (by omega) p2
    have gd : ∀ i : Int, cDiv i (2 ^ k) = true := fun i => cDiv_wide (by omega) p2
    have gs : cShl 1 ((((Builtin.Int.intBits n : Nat) : Int) + 1) / 2) = true := by
      unfold cShl
      rw [Bool.and_eq_true, Bool.and_eq_true]
      exact ⟨⟨decide_eq_true (by omega), decide_eq_true (by omega)⟩, by decide⟩
    have e0 : m_golden_root = rootM (wL rootC rootB 600) := by unfold m_golden_root rootM rootC rootB; rfl
    unfold g_golden_root
    refine (dDef_run (ρ := [.d (.int n), .un, .un]) (by rfl) (by decide) (by rfl)).trans ?_
    rw [e0]
    exact root_run hn gd gs (by rw [hk', Int.one_mul]) hloop
theorem need_integer_ok (i : Int) (w : D) : g_need_integer none [.int i, w] = .ok (.d .non) none := rfl
theorem need_from_ok {i l : Int} (h : l ≤ i) (w : D) : g_need_from none [.int i, .int l, w] = .ok (.d .non) none := by
  have h1 : decide (i < l) = false := decide_eq_false (by omega)
  unfold g_need_from
  refine (dDef_run (ρ := [.d (.int i), .d (.int l), .d w]) (by rfl) (by decide) (by rfl)).trans ?_
  simp only [m_need_from, mSeq, mIfS, mBool, mOp2, mVar, M.bind, M.bindS, M.pure, M.lift, view, f2i, okc, h1, mNext, finD, finOk, spcOut, List.getElem?_cons_zero, List.getElem?_cons_succ, if_true, Bool.false_eq_true, if_false, reduceIte]
theorem need_up_to_ok {i l : Int} (h : i ≤ l) (w : D) : g_need_up_to none [.int i, .int l, w] = .ok (.d .non) none := by
  have h1 : decide (l < i) = false := decide_eq_false (by omega)
  unfold g_need_up_to
  refine (dDef_run (ρ := [.d (.int i), .d (.int l), .d w]) (by rfl) (by decide) (by rfl)).trans ?_
  simp only [m_need_up_to, mSeq, mIfS, mBool, mOp2, mVar, M.bind, M.bindS, M.pure, M.lift, view, f2i, okc, h1, mNext, finD, finOk, spcOut, List.getElem?_cons_zero, List.getElem?_cons_succ, if_true, Bool.false_eq_true, if_false, reduceIte]
theorem need_between_ok {i l u : Int} (h : l ≤ i) (h' : i ≤ u) (w : D) : g_need_between none [.int i, .int l, .int u, w] = .ok (.d .non) none := by
  have h1 : decide (i < l) = false := decide_eq_false (by omega)
  have h2 : decide (u < i) = false := decide_eq_false (by omega)
  unfold g_need_between
  refine (dDef_run (ρ := [.d (.int i), .d (.int l), .d (.int u), .d w]) (by rfl) (by decide) (by rfl)).trans ?_
  simp only [m_need_between, mSeq, mIfS, mOr, mBool, mOp2, mVar, M.bind, M.bindS, M.pure, M.lift, view, f2i, okc, h1, h2, mNext, finD, finOk, spcOut, List.getElem?_cons_zero, List.getElem?_cons_succ, if_true, Bool.false_eq_true, if_false, reduceIte]
theorem whole_ok (i : Int) : g__law_whole none [.int i] = .ok (.d (.bl true)) none := rfl
/-- golden_base by a whole root -/
theorem golden_base_ok {b : Int} (h0 : 0 ≤ b) (h1 : b < 2 ^ 400) : ∃ r : Int, 0 ≤ r ∧ r * r ≤ 5 * (b * b) ∧ 5 * (b * b) < (r + 1) * (r + 1) ∧ g_golden_base none [.int b] = .ok (.d (.int ((r - b) / 2))) none := by
  have hbb : b * b ≤ 2 ^ 400 * 2 ^ 400 := by
    refine Int.mul_le_mul (by omega) (by omega) h0 (two_pow_nn 400)
  have e5 : (5 : Int) * b * b = 5 * (b * b) := Int.mul_assoc ..
  have hn : 0 ≤ b * b := Int.mul_nonneg h0 h0
  have hlt : 5 * (b * b) < 2 ^ 1000 := by
    have e : (2 : Int) ^ 1000 = 2 ^ 400 * 2 ^ 400 * 2 ^ 200 := by rw [← Int.pow_add, ← Int.pow_add]
    have h8 : (8 : Int) ≤ 2 ^ 200 := by
      have h := Nat.pow_le_pow_right (n := 2) (by decide) (show 3 ≤ 200 by decide)
      have h := Int.ofNat_le.mpr h
      rw [Int.natCast_pow, Int.natCast_pow] at h
      exact h
    have hp : (0 : Int) < 2 ^ 400 * 2 ^ 400 := Int.mul_pos (Int.pow_pos (by decide)) (Int.pow_pos (by decide))
    have := Int.mul_le_mul_of_nonneg_left h8 (Int.le_of_lt hp)
    rw [e]
    omega
  obtain ⟨r, r0, r1, r2, e⟩ := golden_root_ok (n := 5 * (b * b)) (by omega) hlt
  refine ⟨r, r0, r1, r2, ?_⟩
  have hw : b.natAbs < 2 ^ 8192 := by
    have h := pow_lt_wide (k := 400) (by decide)
    have e : ((2 ^ 8192 : Nat) : Int) = ((2 : Nat) : Int) ^ 8192 := Int.natCast_pow ..
    have : (b.natAbs : Int) = b := by omega
    have h3 : b < ((2 : Nat) : Int) ^ 8192 := Int.lt_of_lt_of_le h1 h
    omega
  have hw5 : (5 * b).natAbs < 2 ^ 8192 := by
    have h := pow_lt_wide (k := 403) (by decide)
    have e3 : (2 : Int) ^ 403 = 8 * 2 ^ 400 := by rw [show 403 = 3 + 400 from rfl, Int.pow_add]; rfl
    have e : ((2 ^ 8192 : Nat) : Int) = ((2 : Nat) : Int) ^ 8192 := Int.natCast_pow ..
    have h3 : 5 * b < ((2 : Nat) : Int) ^ 8192 := Int.lt_of_lt_of_le (by omega) h
    omega
  have g1 : cMul 5 b = true := cMul_left (by decide)
  have g2 : cMul (5 * b) b = true := cMul_wide hw5 hw
  unfold g_golden_base
  refine (dDef_run (ρ := [.d (.int b)]) (by rfl) (by decide) (by rfl)).trans ?_
  simp only [m_golden_base, mSeq, mRet, mOp2, mVar, mD, mRV, mCall, mCons, mNil, callV, allD, Option.map, M.bind, M.bindS, M.pure, M.lift, view, f2i, okc, g1, g2, e5, e, cDiv_2, mNext, finD, finOk, spcOut, List.getElem?_cons_zero, List.getElem?_cons_succ, if_true, Bool.false_eq_true, if_false, reduceIte]
/-- what golden_base gives -/
def gv (b : Int) : Int := match g_golden_base none [.int b] with
  | .ok (.d (.int v)) _ => v
  | _ => 0
theorem gv_ok {b : Int} (h0 : 0 ≤ b) (h1 : b < 2 ^ 400) : ∃ r : Int, 0 ≤ r ∧ r * r ≤ 5 * (b * b) ∧ 5 * (b * b) < (r + 1) * (r + 1) ∧ gv b = (r - b) / 2 ∧ g_golden_base none [.int b] = .ok (.d (.int (gv b))) none := by
  obtain ⟨r, r0, r1, r2, e⟩ := golden_base_ok h0 h1
  have hg : gv b = (r - b) / 2 := by unfold gv; rw [e]
  exact ⟨r, r0, r1, r2, hg, by rw [hg]; exact e⟩
theorem big (b : Int) (h : b ≤ 10000000000000000000000000000000000000001) : b < 2 ^ 400 := by
  have h2 : (10000000000000000000000000000000000000001 : Nat) < 2 ^ 400 := by decide
  have h2 := Int.ofNat_lt.mpr h2
  rw [Int.natCast_pow] at h2
  exact Int.lt_of_le_of_lt h h2
def numHead (k : SM) : SM := (mSeq (mExpr (mRV (mCall g_need_integer false (mCons (mVar 0) (mCons (mD (.str "the mark")) mNil)))))
 (mSeq (mExpr (mRV (mCall g_need_integer false (mCons (mVar 1) (mCons (mD (.str "b")) mNil)))))
 (mSeq (mExpr (mRV (mCall g_need_integer false (mCons (mVar 2) (mCons (mD (.str "the stand")) mNil)))))
 (mSeq (mExpr (mRV (mCall g_need_between false (mCons (mVar 0) (mCons (mD (.int 1)) (mCons (mD (.int 2)) (mCons (mD (.str "the mark")) mNil)))))))
 (mSeq (mExpr (mRV (mCall g_need_from false (mCons (mVar 1) (mCons (mD (.int 0)) (mCons (mD (.str "b")) mNil))))))
 (mSeq (mExpr (mRV (mCall g_need_between false (mCons (mVar 2) (mCons (mD (.int 1)) (mCons (mD (.int 2)) (mCons (mD (.str "the stand")) mNil)))))))
 (mSeq (mExpr (mRV (mCall g_need_up_to false (mCons (mVar 1) (mCons (mD (.int 10000000000000000000000000000000000000000)) (mCons (mD (.str "b")) mNil)))))) k)))))))
def numTail : SM := (mSeq (mIfS (mBool (mOp2 fEq (mVar 0) (mD (.int 1)))) (mSeq (mAsg (mRV (mCall g_golden_base false (mCons (mVar 1) mNil))) (fun d => setSl 3 (.d d)))
 (mSeq (mRet (mIf (mBool (mOp2 fEq (mVar 2) (mD (.int 1)))) (mVar 3) (mOp2 fAdd (mVar 1) (mVar 3))))
 mNext)) mNext)
 (mSeq (mAsg (mOp2 fAdd (mRV (mCall g_golden_base false (mCons (mOp2 fAdd (mVar 1) (mD (.int 1))) mNil))) (mD (.int 1))) (fun d => setSl 3 (.d d)))
 (mSeq (mRet (mIf (mBool (mOp2 fEq (mVar 2) (mD (.int 1)))) (mVar 3) (mOp2 fAdd (mOp2 fAdd (mVar 1) (mD (.int 1))) (mVar 3))))
 mNext)))
theorem numHead_ok {m b s : Int} (hm : 1 ≤ m ∧ m ≤ 2) (hb : 0 ≤ b) (hb2 : b ≤ 10000000000000000000000000000000000000000) (hs : 1 ≤ s ∧ s ≤ 2) (k : SM) : numHead k [.d (.int m), .d (.int b), .d (.int s), .un] = k [.d (.int m), .d (.int b), .d (.int s), .un] := by
  simp only [numHead, mSeq, mExpr, mRV, mCall, mCons, mNil, callV, allD, Option.map, mVar, mD, M.bind, M.bindS, M.pure, M.lift, need_integer_ok, need_from_ok hb, need_up_to_ok hb2, need_between_ok hm.1 hm.2, need_between_ok hs.1 hs.2, mNext, List.getElem?_cons_zero, List.getElem?_cons_succ, if_true, Bool.false_eq_true, if_false, reduceIte]
theorem num_def : m_golden_number = numHead numTail := by unfold m_golden_number numHead numTail; rfl
theorem num_run {m b s : Int} (hm : 1 ≤ m ∧ m ≤ 2) (hb : 0 ≤ b) (hb2 : b ≤ 10000000000000000000000000000000000000000) (hs : 1 ≤ s ∧ s ≤ 2) : g_golden_number none [.int m, .int b, .int s] = finD none (numTail [.d (.int m), .d (.int b), .d (.int s), .un]) := by
  unfold g_golden_number
  refine (dDef_run (ρ := [.d (.int m), .d (.int b), .d (.int s), .un]) (by rfl) (by decide) (by rfl)).trans ?_
  rw [num_def, numHead_ok hm hb hb2 hs]
theorem num11 {b : Int} (hb : 0 ≤ b) (hb2 : b ≤ 10000000000000000000000000000000000000000) : g_golden_number none [.int 1, .int b, .int 1] = .ok (.d (.int (gv b))) none := by
  obtain ⟨_, _, _, _, _, e⟩ := gv_ok hb (big b (by omega))
  rw [num_run (by decide) hb hb2 (by decide)]
  have h1 : ((1 : Int) == 1) = true := rfl
  simp only [numTail, mSeq, mIfS, mIf, mBool, mAsg, mRet, mOp2, mRV, mCall, mCons, mNil, callV, allD, Option.map, mVar, mD, M.bind, M.bindS, M.pure, M.lift, view, frz, e, fEq_int, fAdd, h1, M.nxt, setSl, fr_un, fr_d, mNext, finD, finOk, spcOut, List.getElem?_cons_zero, List.getElem?_cons_succ, List.set_cons_zero, List.set_cons_succ, if_true, Bool.false_eq_true, if_false, reduceIte]
theorem num12 {b : Int} (hb : 0 ≤ b) (hb2 : b ≤ 10000000000000000000000000000000000000000) : g_golden_number none [.int 1, .int b, .int 2] = .ok (.d (.int (b + gv b))) none := by
  obtain ⟨_, _, _, _, _, e⟩ := gv_ok hb (big b (by omega))
  rw [num_run (by decide) hb hb2 (by decide)]
  have h1 : ((1 : Int) == 1) = true := rfl
  have h2 : ((2 : Int) == 1) = false := rfl
  simp only [numTail, mSeq, mIfS, mIf, mBool, mAsg, mRet, mOp2, mRV, mCall, mCons, mNil, callV, allD, Option.map, mVar, mD, M.bind, M.bindS, M.pure, M.lift, view, frz, e, fEq_int, fAdd, h1, h2, M.nxt, setSl, fr_un, fr_d, mNext, finD, finOk, spcOut, List.getElem?_cons_zero, List.getElem?_cons_succ, List.set_cons_zero, List.set_cons_succ, if_true, Bool.false_eq_true, if_false, reduceIte]
theorem num21 {b : Int} (hb : 0 ≤ b) (hb2 : b ≤ 10000000000000000000000000000000000000000) : g_golden_number none [.int 2, .int b, .int 1] = .ok (.d (.int (gv (b + 1) + 1))) none := by
  obtain ⟨_, _, _, _, _, e⟩ := gv_ok (b := b + 1) (by omega) (big _ (by omega))
  rw [num_run (by decide) hb hb2 (by decide)]
  have h1 : ((1 : Int) == 1) = true := rfl
  have h2 : ((2 : Int) == 1) = false := rfl
  simp only [numTail, mSeq, mIfS, mIf, mBool, mAsg, mRet, mOp2, mRV, mCall, mCons, mNil, callV, allD, Option.map, mVar, mD, M.bind, M.bindS, M.pure, M.lift, view, frz, e, fEq_int, fAdd, h1, h2, M.nxt, setSl, fr_un, fr_d, mNext, finD, finOk, spcOut, List.getElem?_cons_zero, List.getElem?_cons_succ, List.set_cons_zero, List.set_cons_succ, if_true, Bool.false_eq_true, if_false, reduceIte]
theorem num22 {b : Int} (hb : 0 ≤ b) (hb2 : b ≤ 10000000000000000000000000000000000000000) : g_golden_number none [.int 2, .int b, .int 2] = .ok (.d (.int (b + 1 + (gv (b + 1) + 1)))) none := by
  obtain ⟨_, _, _, _, _, e⟩ := gv_ok (b := b + 1) (by omega) (big _ (by omega))
  rw [num_run (by decide) hb hb2 (by decide)]
  have h1 : ((1 : Int) == 1) = true := rfl
  have h2 : ((2 : Int) == 1) = false := rfl
  simp only [numTail, mSeq, mIfS, mIf, mBool, mAsg, mRet, mOp2, mRV, mCall, mCons, mNil, callV, allD, Option.map, mVar, mD, M.bind, M.bindS, M.pure, M.lift, view, frz, e, fEq_int, fAdd, h1, h2, M.nxt, setSl, fr_un, fr_d, mNext, finD, finOk, spcOut, List.getElem?_cons_zero, List.getElem?_cons_succ, List.set_cons_zero, List.set_cons_succ, if_true, Bool.false_eq_true, if_false, reduceIte]
theorem whole_root_ok {n : Int} (h0 : 0 ≤ n) (h1 : n < 2 ^ 1000) : ∃ s : Int, 0 ≤ s ∧ s * s ≤ n ∧ n < (s + 1) * (s + 1) ∧ g_whole_root none [.int n] = .ok (.d (.int s)) none := by
  obtain ⟨s, s0, s1, s2, e⟩ := golden_root_ok h0 h1
  refine ⟨s, s0, s1, s2, ?_⟩
  unfold g_whole_root
  refine (dDef_run (ρ := [.d (.int n)]) (by rfl) (by decide) (by rfl)).trans ?_
  simp only [m_whole_root, mSeq, mExpr, mRet, mRV, mCall, mCons, mNil, callV, allD, Option.map, mVar, mD, M.bind, M.bindS, M.pure, M.lift, need_integer_ok, need_from_ok h0, e, mNext, finD, finOk, spcOut, List.getElem?_cons_zero, List.getElem?_cons_succ, if_true, Bool.false_eq_true, if_false, reduceIte]
/-! ### numbers: the share, the next one -/
theorem sq_le {x y : Int} (hy : 0 ≤ y) (h : x * x ≤ y * y) : x ≤ y := by
  rcases Int.lt_or_le y x with h2 | h2
  · have : y * y < x * x := by
      have h3 : y * y ≤ y * x := Int.mul_le_mul_of_nonneg_left (by omega) hy
      have h4 : y * x < x * x := Int.mul_lt_mul_of_pos_right h2 (by omega)
      omega
    omega
  · exact h2
theorem share_low {b r : Int} (hb : 0 ≤ b) (r0 : 0 ≤ r) (h1 : r * r ≤ 5 * (b * b)) (h2 : 5 * (b * b) < (r + 1) * (r + 1)) : 0 ≤ (r - b) / 2 ∧ (r - b) / 2 * ((r - b) / 2 + b) ≤ b * b ∧ b * b < ((r - b) / 2 + 1) * ((r - b) / 2 + 1 + b) := by
  have hrb : b ≤ r := by
    rcases Int.lt_or_le r b with h | h
    · have : (r + 1) * (r + 1) ≤ b * b := Int.mul_self_le_mul_self (by omega) (by omega)
      have : 0 ≤ b * b := Int.mul_nonneg hb hb
      omega
    · exact h
  obtain ⟨l, hl⟩ : ∃ l, l = (r - b) / 2 := ⟨_, rfl⟩
  rw [← hl]
  have l0 : 0 ≤ l := by omega
  refine ⟨l0, ?_, ?_⟩
  · have h3 : (2 * l + b) * (2 * l + b) ≤ r * r := Int.mul_self_le_mul_self (by omega) (by omega)
    grind
  · have h3 : (r + 1) * (r + 1) ≤ (2 * l + 2 + b) * (2 * l + 2 + b) := Int.mul_self_le_mul_self (by omega) (by omega)
    grind
theorem next_root {b r r' : Int} (hb : 0 ≤ b) (r0 : 0 ≤ r) (h1 : r * r ≤ 5 * (b * b)) (h2 : 5 * (b * b) < (r + 1) * (r + 1)) (s0 : 0 ≤ r') (k1 : r' * r' ≤ 5 * ((b + 1) * (b + 1))) (k2 : 5 * ((b + 1) * (b + 1)) < (r' + 1) * (r' + 1)) : r + 2 ≤ r' ∧ r' ≤ r + 3 := by
  have hr : 2 * r ≤ 5 * b := by
    refine sq_le (by omega) ?_
    have : 0 ≤ b * b := Int.mul_nonneg hb hb
    grind
  have hr2 : 5 * b ≤ 3 * (r + 1) := by
    refine sq_le (by omega) ?_
    have : 0 ≤ b * b := Int.mul_nonneg hb hb
    grind
  constructor
  · have : (r + 2) * (r + 2) < (r' + 1) * (r' + 1) := by grind
    rcases Int.lt_or_le r' (r + 2) with h | h
    · have := Int.mul_self_le_mul_self (a := r' + 1) (b := r + 2) (by omega) (by omega)
      omega
    · exact h
  · have : r' * r' < (r + 4) * (r + 4) := by grind
    rcases Int.lt_or_le (r + 3) r' with h | h
    · have := Int.mul_self_le_mul_self (a := r + 4) (b := r') (by omega) (by omega)
      omega
    · exact h
end K64
end VL

set_option Elab.async false
set_option linter.all false
set_option maxRecDepth 100000
set_option maxHeartbeats 400000
namespace VL
open PySem PySem.Spec L2 He He5
namespace K64
theorem in62_of {i : Int} (h1 : -4611686018427387904 ≤ i) (h2 : i < 4611686018427387904) : in62 i = true := by
  unfold in62
  rw [decide_eq_true h1, decide_eq_true h2]; rfl
theorem rng1_nat {n : Nat} (h : n ≤ 16777216) : rng1 (.int (n : Int)) = some (rangeD 0 n) := by
  have e : (in62 (n : Int) && decide ((n : Int) ≤ 16777216)) = true := by
    rw [in62_of (by omega) (by omega), decide_eq_true (by omega)]; rfl
  show (if (in62 (n : Int) && decide ((n : Int) ≤ 16777216)) = true then some (rangeD 0 (n : Int).toNat) else none) = _
  rw [if_pos e, Int.toNat_natCast]
theorem callIo_sl {g : Fn} {j : Nat} {rest : List Hd} {ρ : En} : callIo g (.sl j :: rest) ρ = M.bind (frzAll rest) (fun as => fun ρ => ioCall g as ρ j ρ[j]?) ρ := rfl
theorem ioCall_arg {g : Fn} {as xs : List D} {ρ : En} {j : Nat} : ioCall g as ρ j (some (.arg xs)) = ioEnd ρ j (.arg xs) (g (some (.io xs)) as) := rfl
theorem ioCall_own {g : Fn} {as xs : List D} {ρ : En} {j : Nat} : ioCall g as ρ j (some (.own xs)) = ioEnd ρ j (.own xs) (g (some (.io xs)) as) := rfl
theorem ioEnd_ok {ρ : En} {j : Nat} {s : Sl} {r : RV} {ys : List D} : ioEnd ρ j s (.ok r (some (.io ys))) = .ok r (ρ.set j (s.put ys)) := rfl
theorem put_arg {xs ys : List D} : (Sl.arg xs).put ys = .arg ys := rfl
theorem put_own {xs ys : List D} : (Sl.own xs).put ys = .own ys := rfl
theorem small_wide {i : Int} (h : 0 ≤ i) (h2 : i < 2 ^ 400) : i.natAbs < 2 ^ 8192 := by
  have h := pow_lt_wide (k := 400) (by decide)
  have e : ((2 ^ 8192 : Nat) : Int) = ((2 : Nat) : Int) ^ 8192 := Int.natCast_pow ..
  have h3 : i < ((2 : Nat) : Int) ^ 8192 := Int.lt_of_lt_of_le h2 h
  omega
theorem big2 (b : Int) (h : b ≤ 100000000000000000000000000000000000000000) : b < 2 ^ 400 := by
  have h2 : (100000000000000000000000000000000000000000 : Nat) < 2 ^ 400 := by decide
  have h2 := Int.ofNat_lt.mpr h2
  rw [Int.natCast_pow] at h2
  exact Int.lt_of_le_of_lt h h2
theorem mul_big {i j : Int} (h1 : 0 ≤ i) (h2 : i ≤ 100000000000000000000000000000000000000000) (h3 : 0 ≤ j) (h4 : j ≤ 100000000000000000000000000000000000000000) : cMul i j = true := cMul_wide (small_wide h1 (big2 _ h2)) (small_wide h3 (big2 _ h4))
theorem is_share_ok {l b : Int} (l0 : 0 ≤ l) (l1 : l ≤ 10000000000000000000000000000000000000001) (b0 : 0 ≤ b) (b1 : b ≤ 10000000000000000000000000000000000000001) (h1 : l * (l + b) ≤ b * b) (h2 : b * b < (l + 1) * (l + 1 + b)) : g__law_is_share none [.int l, .int b] = .ok (.d (.bl true)) none := by
  have g1 : cMul l (l + b) = true := mul_big l0 (by omega) (by omega) (by omega)
  have g2 : cMul b b = true := mul_big b0 (by omega) b0 (by omega)
  have g3 : cMul (l + 1) (l + 1 + b) = true := mul_big (by omega) (by omega) (by omega) (by omega)
  have c1 : decide (b * b < l * (l + b)) = false := decide_eq_false (by omega)
  have c2 : decide (b * b < (l + 1) * (l + 1 + b)) = true := decide_eq_true h2
  unfold g__law_is_share
  refine (dDef_run (ρ := [.d (.int l), .d (.int b)]) (by rfl) (by decide) (by rfl)).trans ?_
  simp only [m__law_is_share, mSeq, mIfS, mIf, mOr, mOrV, mAnd, mNot, mBool, mTruth, truth, mAsg, mRet, mExpr, mOp2, mRV, mCall, mCons, mNil, callV, allD, Option.map, mVar, mD, M.bind, M.bindS, M.pure, M.lift, view, viewSl, frz, frzAll, f2i, okc, fAdd, fEq_int, fNe_int, M.nxt, setSl, fr_un, fr_d, fr_own, mNext, callIo_sl, ioCall_arg, ioCall_own, ioEnd_ok, put_arg, put_own, finD, finOk, spcOut, List.getElem?_cons_zero, List.getElem?_cons_succ, List.set_cons_zero, List.set_cons_succ, if_true, Bool.false_eq_true, if_false, reduceIte, Bool.not_true, Bool.not_false, g1, g2, g3, c1, c2]
/-! ### a great number -/
def GreatI (t : Nat) (ρ : En) : Prop := ∃ (ps : List Int) (v : Int) (s2 : Sl), ρ = [.arg (ps.map D.int), .d (.int v), s2] ∧ ps.length ≤ 4096 ∧ 0 ≤ v ∧ v < 30 ^ t ∧ s2.free = true
def greatB : SM := (mSeq (mAsg (mOp2 fAdd (mOp2 fMul (mVar 1) (mD (.int 30))) (mRV (mCall g__law_draw true (mCons (mVar 0) (mCons (mD (.int 30)) mNil))))) (fun d => setSl 1 (.d d)))
 mNext)
theorem draw_ok (ps : List Int) (k : Int) (hk : 0 < k) (hl : ps.length ≤ 4096) : ∃ (v : Int) (ps' : List Int), 0 ≤ v ∧ v < k ∧ ps'.length ≤ 4096 ∧ g__law_draw (some (.io (ps.map D.int))) [.int k] = .ok (.d (.int v)) (some (.io (ps'.map D.int))) := by
  obtain ⟨v, ps', h1, h2, h3, e⟩ := S.draw_ok ps k hk (by omega)
  exact ⟨v, ps', h1, h2, by omega, e⟩
theorem great_turn {t : Nat} {j : Int} {ρ : En} (h : GreatI t ρ) : ∃ ρ1, setSl 2 (.d (.int j)) ρ = .ok () ρ1 ∧ ∃ ρ2, greatB ρ1 = .nx ρ2 ∧ GreatI (t + 1) ρ2 := by
  obtain ⟨ps, v, s2, rfl, hl, v0, v1, h2⟩ := h
  obtain ⟨d, ps', d0, d1, hl', e⟩ := draw_ok ps 30 (by decide) hl
  refine ⟨[.arg (ps.map D.int), .d (.int v), .d (.int j)], by simp [setSl, h2], [.arg (ps'.map D.int), .d (.int (v * 30 + d)), .d (.int j)], ?_, ps', v * 30 + d, _, rfl, hl', by omega, ?_, rfl⟩
  · have g : cMul v 30 = true := cMul_right (by decide)
    simp only [greatB, mSeq, mIfS, mIf, mOr, mOrV, mAnd, mNot, mBool, mTruth, truth, mAsg, mRet, mExpr, mOp2, mRV, mCall, mCons, mNil, callV, allD, Option.map, mVar, mD, M.bind, M.bindS, M.pure, M.lift, view, viewSl, frz, frzAll, f2i, okc, fAdd, fEq_int, fNe_int, M.nxt, setSl, fr_un, fr_d, fr_own, mNext, callIo_sl, ioCall_arg, ioCall_own, ioEnd_ok, put_arg, put_own, finD, finOk, spcOut, List.getElem?_cons_zero, List.getElem?_cons_succ, List.set_cons_zero, List.set_cons_succ, if_true, Bool.false_eq_true, if_false, reduceIte, Bool.not_true, Bool.not_false, g, e]
  · rw [Int.pow_succ]
    omega
theorem pow30 {t : Nat} (h : t ≤ 26) : (30 : Int) ^ t ≤ 300000000000000000000000000000000000000 := by
  have h := Nat.pow_le_pow_right (n := 30) (by decide) h
  have h2 : (30 : Nat) ^ 26 ≤ 300000000000000000000000000000000000000 := by decide
  have h := Int.ofNat_le.mpr (Nat.le_trans h h2)
  rw [Int.natCast_pow] at h
  exact h
theorem great_run {gB : SM} {dr : Fn} {Lx : M Hd} {xs ps ps1 ps' : List D} {d v j : Int} {n : Nat} {s2 : Sl} (hL : ∀ ρ, Lx ρ = .ok (.d (.lst xs)) ρ) (e : dr (some (.io ps)) [.int 4] = .ok (.d (.int d)) (some (.io ps1))) (hn2 : fIx (.lst xs) (.int d) = some (.int j)) (hr : rng1 (.int j) = some (rangeD 0 n))
    (e2 : forL (fun d => setSl 2 (.d d)) gB (rangeD 0 n) [.arg ps1, .d (.int 0), .un] = .nx [.arg ps', .d (.int v), s2]) :
    finD (some (.io ps)) ((mSeq (mAsg (mD (.int 0)) (fun d => setSl 1 (.d d))) (mSeq (mFor (mRng1 (mOp2 fIx Lx (mRV (mCall dr true (mCons (mVar 0) (mCons (mD (.int 4)) mNil)))))) (fun d => setSl 2 (.d d)) gB) (mSeq (mRet (mVar 1)) mNext))) [.arg ps, .un, .un]) = .ok (.d (.int v)) (some (.io ps')) := by
  simp only [mSeq, mIfS, mIf, mOr, mOrV, mAnd, mNot, mBool, mTruth, truth, mAsg, mRet, mExpr, mOp2, mRV, mCall, mCons, mNil, callV, allD, Option.map, mVar, mD, M.bind, M.bindS, M.pure, M.lift, view, viewSl, frz, frzAll, f2i, okc, fAdd, fEq_int, fNe_int, M.nxt, setSl, fr_un, fr_d, fr_own, mNext, callIo_sl, ioCall_arg, ioCall_own, ioEnd_ok, put_arg, put_own, finD, finOk, spcOut, List.getElem?_cons_zero, List.getElem?_cons_succ, List.set_cons_zero, List.set_cons_succ, if_true, Bool.false_eq_true, if_false, reduceIte, Bool.not_true, Bool.not_false, mFor, mRng1, hL, e, hn2, hr, e2]
def greatL : M Hd := (mFrzF (mLst (mCons (mD (.int 1)) (mCons (mD (.int 4)) (mCons (mD (.int 12)) (mCons (mD (.int 26)) mNil))))))
theorem greatL_ok (ρ : En) : greatL ρ = .ok (.d (.lst [.int 1, .int 4, .int 12, .int 26])) ρ := rfl
theorem great_ok (ps : List Int) (hl : ps.length ≤ 4096) : ∃ (v : Int) (ps' : List Int), 0 ≤ v ∧ v < 300000000000000000000000000000000000000 ∧ ps'.length ≤ 4096 ∧ g__law_great (some (.io (ps.map D.int))) [] = .ok (.d (.int v)) (some (.io (ps'.map D.int))) := by
  obtain ⟨d, ps1, d0, d1, hl1, e⟩ := draw_ok ps 4 (by decide) hl
  obtain ⟨n, hn, hn2⟩ : ∃ n : Nat, n ≤ 26 ∧ fIx (.lst [.int 1, .int 4, .int 12, .int 26]) (.int d) = some (.int n) := by
    have : d = 0 ∨ d = 1 ∨ d = 2 ∨ d = 3 := by omega
    rcases this with rfl | rfl | rfl | rfl
    · exact ⟨1, by decide, rfl⟩
    · exact ⟨4, by decide, rfl⟩
    · exact ⟨12, by decide, rfl⟩
    · exact ⟨26, by decide, rfl⟩
  have hr : rng1 (.int (n : Int)) = some (rangeD 0 n) := rng1_nat (by omega)
  obtain ⟨ρ', e2, ps', v, s2, rfl, hl', v0, v1, _⟩ := forL_range (I := GreatI) (bnd := fun d => setSl 2 (.d d)) (body := greatB) (n := n) (ρ := [.arg (ps1.map D.int), .d (.int 0), .un]) (fun i hi ρ hρ => great_turn hρ) ⟨ps1, 0, .un, rfl, hl1, by decide, by decide, rfl⟩
  refine ⟨v, ps', v0, Int.lt_of_lt_of_le v1 (pow30 hn), hl', ?_⟩
  unfold g__law_great
  refine (dDef_run (ρ := [.arg (ps.map D.int), .un, .un]) (by rfl) (by decide) (by rfl)).trans ?_
  have e0 : m__law_great = mSeq (mAsg (mD (.int 0)) (fun d => setSl 1 (.d d))) (mSeq (mFor (mRng1 (mOp2 fIx greatL (mRV (mCall g__law_draw true (mCons (mVar 0) (mCons (mD (.int 4)) mNil)))))) (fun d => setSl 2 (.d d)) greatB) (mSeq (mRet (mVar 1)) mNext)) := by unfold m__law_great greatB greatL; rfl
  rw [e0]
  exact great_run greatL_ok e hn2 hr e2
end K64
end VL

set_option Elab.async false
set_option linter.all false
set_option maxRecDepth 100000
set_option maxHeartbeats 400000
namespace VL
open PySem PySem.Spec L2 He He5
namespace K64
def tailM (gr gn sh wh wr : Fn) : SM := (mSeq (mAsg (mRV (mCall gr true (mCons (mVar 1) mNil))) (fun d => setSl 7 (.d d)))
 (mSeq (mAsg (mRV (mCall gn false (mCons (mD (.int 1)) (mCons (mVar 7) (mCons (mD (.int 1)) mNil))))) (fun d => setSl 10 (.d d)))
 (mSeq (mIfS (mOr (mNot (mTruth (mRV (mCall sh false (mCons (mVar 10) (mCons (mVar 7) mNil)))))) (mBool (mOp2 fNe (mRV (mCall gn false (mCons (mD (.int 1)) (mCons (mVar 7) (mCons (mD (.int 2)) mNil))))) (mOp2 fAdd (mVar 7) (mVar 10))))) (mSeq (mRet (mD (.bl false)))
 mNext) mNext)
 (mSeq (mAsg (mRV (mCall gn false (mCons (mD (.int 1)) (mCons (mOp2 fAdd (mVar 7) (mD (.int 1))) (mCons (mD (.int 1)) mNil))))) (fun d => setSl 11 (.d d)))
 (mSeq (mIfS (mOr (mNot (mTruth (mRV (mCall sh false (mCons (mVar 11) (mCons (mOp2 fAdd (mVar 7) (mD (.int 1))) mNil)))))) (mBool (mOp2 fNotIn (mOp2 fSub (mVar 11) (mVar 10)) (mTup (mCons (mD (.int 0)) (mCons (mD (.int 1)) mNil)))))) (mSeq (mRet (mD (.bl false)))
 mNext) mNext)
 (mSeq (mIfS (mOr (mBool (mOp2 fNe (mRV (mCall gn false (mCons (mD (.int 2)) (mCons (mVar 7) (mCons (mD (.int 1)) mNil))))) (mOp2 fAdd (mVar 11) (mD (.int 1))))) (mBool (mOp2 fNe (mRV (mCall gn false (mCons (mD (.int 2)) (mCons (mVar 7) (mCons (mD (.int 2)) mNil))))) (mOp2 fAdd (mOp2 fAdd (mVar 7) (mVar 11)) (mD (.int 2)))))) (mSeq (mRet (mD (.bl false)))
 mNext) mNext)
 (mSeq (mAsg (mRV (mCall gr true (mCons (mVar 1) mNil))) (fun d => setSl 12 (.d d)))
 (mSeq (mAsg (mRV (mCall wr false (mCons (mVar 12) mNil))) (fun d => setSl 13 (.d d)))
 (mSeq (mIfS (mOr (mNot (mTruth (mRV (mCall wh false (mCons (mVar 13) mNil))))) (mOr (mBool (mOp2 fGt (mOp2 fMul (mVar 13) (mVar 13)) (mVar 12))) (mBool (mOp2 fLe (mOp2 fMul (mOp2 fAdd (mVar 13) (mD (.int 1))) (mOp2 fAdd (mVar 13) (mD (.int 1)))) (mVar 12))))) (mSeq (mRet (mD (.bl false)))
 mNext) mNext)
 (mSeq (mIfS (mOr (mBool (mOp2 fNe (mRV (mCall wr false (mCons (mOp2 fMul (mVar 12) (mVar 12)) mNil))) (mVar 12))) (mBool (mOp2 fNe (mRV (mCall wr false (mCons (mOp2 fAdd (mOp2 fMul (mVar 12) (mVar 12)) (mOp2 fMul (mD (.int 2)) (mVar 12))) mNil))) (mVar 12)))) (mSeq (mRet (mD (.bl false)))
 mNext) mNext)
 (mSeq (mRet (mOrV (mOp2 fEq (mVar 12) (mD (.int 0))) (mOp2 fEq (mRV (mCall wr false (mCons (mOp2 fSub (mOp2 fMul (mVar 12) (mVar 12)) (mD (.int 1))) mNil))) (mOp2 fSub (mVar 12) (mD (.int 1))))))
 mNext)))))))))))
theorem tail_run {gr gn sh wh wr : Fn} {x0 x2 x3 x4 x5 x6 x7 x8 x9 : D} {ps ps1 ps2 : List D} {b l a q r : Int}
    (e1 : gr (some (.io ps)) [] = .ok (.d (.int b)) (some (.io ps1))) (e2 : gn none [.int 1, .int b, .int 1] = .ok (.d (.int l)) none) (e3 : sh none [.int l, .int b] = .ok (.d (.bl true)) none) (e4 : gn none [.int 1, .int b, .int 2] = .ok (.d (.int (b + l))) none)
    (e5 : gn none [.int 1, .int (b + 1), .int 1] = .ok (.d (.int a)) none) (e6 : sh none [.int a, .int (b + 1)] = .ok (.d (.bl true)) none) (e7 : fNotIn (.int (a - l)) (.tup [.int 0, .int 1]) = some (.bl false))
    (e8 : gn none [.int 2, .int b, .int 1] = .ok (.d (.int (a + 1))) none) (e9 : gn none [.int 2, .int b, .int 2] = .ok (.d (.int (b + a + 2))) none)
    (e10 : gr (some (.io ps1)) [] = .ok (.d (.int q)) (some (.io ps2))) (e11 : wr none [.int q] = .ok (.d (.int r)) none) (e12 : wh none [.int r] = .ok (.d (.bl true)) none) (c1 : decide (q < r * r) = false) (c2 : decide ((r + 1) * (r + 1) ≤ q) = false)
    (g1 : cMul r r = true) (g2 : cMul (r + 1) (r + 1) = true) (g3 : cMul q q = true) (g4 : cMul 2 q = true) (e13 : wr none [.int (q * q)] = .ok (.d (.int q)) none) (e14 : wr none [.int (q * q + 2 * q)] = .ok (.d (.int q)) none)
    (e15 : (q == 0) = false → wr none [.int (q * q - 1)] = .ok (.d (.int (q - 1))) none) :
    ∃ ρ', tailM gr gn sh wh wr [.d x0, .own ps, .d x2, .d x3, .d x4, .d x5, .d x6, .d x7, .d x8, .d x9, .un, .un, .un, .un] = .rt (.d (.bl true)) ρ' := by
  have ht : ∀ ρ, mTup (mCons (mD (.int 0)) (mCons (mD (.int 1)) mNil)) ρ = .ok (.d (.tup [.int 0, .int 1])) ρ := fun ρ => rfl
  have b1 : ∀ i : Int, (i == i) = true := fun i => by simp
  unfold tailM
  generalize (mTup (mCons (mD (.int 0)) (mCons (mD (.int 1)) mNil))) = tp at ht ⊢
  cases hq : (q == 0) with
  | true =>
    refine ⟨[.d x0, .own ps2, .d x2, .d x3, .d x4, .d x5, .d x6, .d (.int b), .d x8, .d x9, .d (.int l), .d (.int a), .d (.int q), .d (.int r)], ?_⟩
    simp only [mSeq, mIfS, mIf, mOr, mOrV, mAnd, mNot, mBool, mTruth, truth, mAsg, mRet, mExpr, mOp2, mRV, mCall, mCons, mNil, callV, allD, Option.map, mVar, mD, M.bind, M.bindS, M.pure, M.lift, view, viewSl, frz, frzAll, f2i, okc, fAdd, fEq_int, fNe_int, M.nxt, setSl, fr_un, fr_d, fr_own, mNext, callIo_sl, ioCall_arg, ioCall_own, ioEnd_ok, put_arg, put_own, finD, finOk, spcOut, List.getElem?_cons_zero, List.getElem?_cons_succ, List.set_cons_zero, List.set_cons_succ, if_true, Bool.false_eq_true, if_false, reduceIte, Bool.not_true, Bool.not_false, fSub, fGt, fLe, fMul, e1, e2, e3, e4, e5, e6, e7, e8, e9, e10, e11, e12, e13, e14, c1, c2, g1, g2, g3, g4, ht, b1, hq]
  | false =>
    refine ⟨[.d x0, .own ps2, .d x2, .d x3, .d x4, .d x5, .d x6, .d (.int b), .d x8, .d x9, .d (.int l), .d (.int a), .d (.int q), .d (.int r)], ?_⟩
    simp only [mSeq, mIfS, mIf, mOr, mOrV, mAnd, mNot, mBool, mTruth, truth, mAsg, mRet, mExpr, mOp2, mRV, mCall, mCons, mNil, callV, allD, Option.map, mVar, mD, M.bind, M.bindS, M.pure, M.lift, view, viewSl, frz, frzAll, f2i, okc, fAdd, fEq_int, fNe_int, M.nxt, setSl, fr_un, fr_d, fr_own, mNext, callIo_sl, ioCall_arg, ioCall_own, ioEnd_ok, put_arg, put_own, finD, finOk, spcOut, List.getElem?_cons_zero, List.getElem?_cons_succ, List.set_cons_zero, List.set_cons_succ, if_true, Bool.false_eq_true, if_false, reduceIte, Bool.not_true, Bool.not_false, fSub, fGt, fLe, fMul, e1, e2, e3, e4, e5, e6, e7, e8, e9, e10, e11, e12, e13, e14, e15 hq, c1, c2, g1, g2, g3, g4, ht, b1, hq]
end K64
end VL

set_option Elab.async false
set_option linter.all false
set_option maxRecDepth 100000
set_option maxHeartbeats 400000
namespace VL
open PySem PySem.Spec L2 He He5
namespace K64
theorem mSeq_nx {m k : SM} {ρ ρ' : En} (h : m ρ = .nx ρ') : mSeq m k ρ = k ρ' := by
  unfold mSeq
  rw [h]
theorem mSeq_assoc (a b c : SM) : mSeq (mSeq a b) c = mSeq a (mSeq b c) := by
  funext ρ
  unfold mSeq
  cases a ρ <;> rfl
theorem behind_ok {r : SRes} {ps : List D} (h : behind r = some ps) : ∃ a0 a2 a3 a4 a5 a6 a7 a8 a9 : D, r = .nx [.d a0, .own ps, .d a2, .d a3, .d a4, .d a5, .d a6, .d a7, .d a8, .d a9, .un, .un, .un, .un] := by
  unfold behind at h
  split at h
  · injection h with h
    subst h
    exact ⟨_, _, _, _, _, _, _, _, _, rfl⟩
  · cases h
theorem seg_all (ps : List D) (x : D) {m k : Int} (hm : 1 ≤ m ∧ m ≤ 2) (hk : 0 ≤ k ∧ k < 15) : behind (seg (env0 ps m k x)) = some ps := by
  have h1 : m = 1 ∨ m = 2 := by omega
  have h2 : k = 0 ∨ k = 1 ∨ k = 2 ∨ k = 3 ∨ k = 4 ∨ k = 5 ∨ k = 6 ∨ k = 7 ∨ k = 8 ∨ k = 9 ∨ k = 10 ∨ k = 11 ∨ k = 12 ∨ k = 13 ∨ k = 14 := by omega
  rcases h1 with rfl | rfl
  · rcases h2 with rfl | rfl | rfl | rfl | rfl | rfl | rfl | rfl | rfl | rfl | rfl | rfl | rfl | rfl | rfl
    · exact seg_1_0 ps x
    · exact seg_1_1 ps x
    · exact seg_1_2 ps x
    · exact seg_1_3 ps x
    · exact seg_1_4 ps x
    · exact seg_1_5 ps x
    · exact seg_1_6 ps x
    · exact seg_1_7 ps x
    · exact seg_1_8 ps x
    · exact seg_1_9 ps x
    · exact seg_1_10 ps x
    · exact seg_1_11 ps x
    · exact seg_1_12 ps x
    · exact seg_1_13 ps x
    · exact seg_1_14 ps x
  · rcases h2 with rfl | rfl | rfl | rfl | rfl | rfl | rfl | rfl | rfl | rfl | rfl | rfl | rfl | rfl | rfl
    · exact seg_2_0 ps x
    · exact seg_2_1 ps x
    · exact seg_2_2 ps x
    · exact seg_2_3 ps x
    · exact seg_2_4 ps x
    · exact seg_2_5 ps x
    · exact seg_2_6 ps x
    · exact seg_2_7 ps x
    · exact seg_2_8 ps x
    · exact seg_2_9 ps x
    · exact seg_2_10 ps x
    · exact seg_2_11 ps x
    · exact seg_2_12 ps x
    · exact seg_2_13 ps x
    · exact seg_2_14 ps x
theorem s3_ok (x : D) (ps : List D) (m : Int) : m_law_3 [.d x, .own ps, .d (.int m), .un, .un, .un, .un, .un, .un, .un, .un, .un, .un, .un] = .nx [.d x, .own ps, .d (.int m), .d (path m), .un, .un, .un, .un, .un, .un, .un, .un, .un, .un] := by kernel_rfl
def head1 (pot : Fn) : SM := (mOwn (mRVF (mCall pot false (mCons (mVar 0) mNil))) 1)
def head2 (dr : Fn) : SM := (mAsg (mOp2 fAdd (mD (.int 1)) (mRV (mCall dr true (mCons (mVar 1) (mCons (mD (.int 2)) mNil))))) (fun d => setSl 2 (.d d)))
def head4 (dr : Fn) : SM := (mAsg (mRV (mCall dr true (mCons (mVar 1) (mCons (mD (.int 15)) mNil)))) (fun d => setSl 4 (.d d)))
theorem head1_ok {pot : Fn} {x : D} {ps : List D} (e : pot none [x] = .ok (.fr ps) none) : head1 pot [.d x, .un, .un, .un, .un, .un, .un, .un, .un, .un, .un, .un, .un, .un] = .nx [.d x, .own ps, .un, .un, .un, .un, .un, .un, .un, .un, .un, .un, .un, .un] := by
  simp only [head1, mOwn, mRVF, mSeq, mIfS, mIf, mOr, mOrV, mAnd, mNot, mBool, mTruth, truth, mAsg, mRet, mExpr, mOp2, mRV, mCall, mCons, mNil, callV, allD, Option.map, mVar, mD, M.bind, M.bindS, M.pure, M.lift, view, viewSl, frz, frzAll, f2i, okc, fAdd, fEq_int, fNe_int, M.nxt, setSl, fr_un, fr_d, fr_own, mNext, callIo_sl, ioCall_arg, ioCall_own, ioEnd_ok, put_arg, put_own, finD, finOk, spcOut, List.getElem?_cons_zero, List.getElem?_cons_succ, List.set_cons_zero, List.set_cons_succ, if_true, Bool.false_eq_true, if_false, reduceIte, Bool.not_true, Bool.not_false, e]
theorem head2_ok {dr : Fn} {x : D} {ps ps1 : List D} {v : Int} (e : dr (some (.io ps)) [.int 2] = .ok (.d (.int v)) (some (.io ps1))) : head2 dr [.d x, .own ps, .un, .un, .un, .un, .un, .un, .un, .un, .un, .un, .un, .un] = .nx [.d x, .own ps1, .d (.int (1 + v)), .un, .un, .un, .un, .un, .un, .un, .un, .un, .un, .un] := by
  simp only [head2, mSeq, mIfS, mIf, mOr, mOrV, mAnd, mNot, mBool, mTruth, truth, mAsg, mRet, mExpr, mOp2, mRV, mCall, mCons, mNil, callV, allD, Option.map, mVar, mD, M.bind, M.bindS, M.pure, M.lift, view, viewSl, frz, frzAll, f2i, okc, fAdd, fEq_int, fNe_int, M.nxt, setSl, fr_un, fr_d, fr_own, mNext, callIo_sl, ioCall_arg, ioCall_own, ioEnd_ok, put_arg, put_own, finD, finOk, spcOut, List.getElem?_cons_zero, List.getElem?_cons_succ, List.set_cons_zero, List.set_cons_succ, if_true, Bool.false_eq_true, if_false, reduceIte, Bool.not_true, Bool.not_false, e]
theorem head4_ok {dr : Fn} {x y z : D} {ps ps1 : List D} {v : Int} (e : dr (some (.io ps)) [.int 15] = .ok (.d (.int v)) (some (.io ps1))) : head4 dr [.d x, .own ps, .d y, .d z, .un, .un, .un, .un, .un, .un, .un, .un, .un, .un] = .nx [.d x, .own ps1, .d y, .d z, .d (.int v), .un, .un, .un, .un, .un, .un, .un, .un, .un] := by
  simp only [head4, mSeq, mIfS, mIf, mOr, mOrV, mAnd, mNot, mBool, mTruth, truth, mAsg, mRet, mExpr, mOp2, mRV, mCall, mCons, mNil, callV, allD, Option.map, mVar, mD, M.bind, M.bindS, M.pure, M.lift, view, viewSl, frz, frzAll, f2i, okc, fAdd, fEq_int, fNe_int, M.nxt, setSl, fr_un, fr_d, fr_own, mNext, callIo_sl, ioCall_arg, ioCall_own, ioEnd_ok, put_arg, put_own, finD, finOk, spcOut, List.getElem?_cons_zero, List.getElem?_cons_succ, List.set_cons_zero, List.set_cons_succ, if_true, Bool.false_eq_true, if_false, reduceIte, Bool.not_true, Bool.not_false, e]
theorem root_unique {n s q : Int} (s0 : 0 ≤ s) (q0 : 0 ≤ q) (h1 : s * s ≤ n) (h2 : n < (s + 1) * (s + 1)) (h3 : q * q ≤ n) (h4 : n < (q + 1) * (q + 1)) : s = q := by
  rcases Int.lt_or_le s q with h | h
  · have := Int.mul_self_le_mul_self (a := s + 1) (b := q) (by omega) (by omega)
    omega
  · rcases Int.lt_or_le q s with h' | h'
    · have := Int.mul_self_le_mul_self (a := q + 1) (b := s) (by omega) (by omega)
      omega
    · omega
theorem n_small {n : Int} (h : n ≤ 100000000000000000000000000000000000000000000000000000000000000000000000000000000) : n < 2 ^ 1000 := by
  have h2 : (100000000000000000000000000000000000000000000000000000000000000000000000000000000 : Nat) < 2 ^ 400 := by decide
  have h2 := Int.ofNat_lt.mpr h2
  rw [Int.natCast_pow] at h2
  have h3 := Nat.pow_le_pow_right (n := 2) (by decide) (show 400 ≤ 1000 by decide)
  have h3 := Int.ofNat_le.mpr h3
  rw [Int.natCast_pow, Int.natCast_pow] at h3
  exact Int.lt_of_le_of_lt h (Int.lt_of_lt_of_le h2 h3)
theorem law_def : m_law = mSeq (head1 g__law_pot) (mSeq (head2 g__law_draw) (mSeq m_law_3 (mSeq (head4 g__law_draw) (mSeq m_law_5 (mSeq m_law_6 (mSeq m_law_7 (mSeq m_law_8 (tailM g__law_great g_golden_number g__law_is_share g__law_whole g_whole_root)))))))) := by
  unfold m_law head1 head2 head4 tailM m_law_1 m_law_2 m_law_4 m_law_9 m_law_10 m_law_11 m_law_12 m_law_13 m_law_14 m_law_15 m_law_16 m_law_17 m_law_18 m_law_19
  rfl
theorem tail_true (ps : List Int) (hl : ps.length ≤ 4096) (x0 x2 x3 x4 x5 x6 x7 x8 x9 : D) : ∃ ρ', tailM g__law_great g_golden_number g__law_is_share g__law_whole g_whole_root [.d x0, .own (ps.map D.int), .d x2, .d x3, .d x4, .d x5, .d x6, .d x7, .d x8, .d x9, .un, .un, .un, .un] = .rt (.d (.bl true)) ρ' := by
  obtain ⟨b, ps1, b0, b1, hl1, e1⟩ := great_ok ps hl
  obtain ⟨q, ps2, q0, q1, hl2, e10⟩ := great_ok ps1 hl1
  obtain ⟨r, r0, r1, r2, hg, _⟩ := gv_ok b0 (big b (by omega))
  obtain ⟨r', s0, s1, s2, hg', _⟩ := gv_ok (b := b + 1) (by omega) (big _ (by omega))
  obtain ⟨l0, l1, l2⟩ := share_low b0 r0 r1 r2
  obtain ⟨a0, a1, a2⟩ := share_low (b := b + 1) (by omega) s0 s1 s2
  obtain ⟨n1, n2⟩ := next_root b0 r0 r1 r2 s0 s1 s2
  rw [← hg] at l0 l1 l2
  rw [← hg'] at a0 a1 a2
  have lb : gv b ≤ b := sq_le b0 (by
    have : gv b * gv b ≤ gv b * (gv b + b) := Int.mul_le_mul_of_nonneg_left (by omega) l0
    omega)
  have ab : gv (b + 1) ≤ b + 1 := sq_le (by omega) (by
    have : gv (b + 1) * gv (b + 1) ≤ gv (b + 1) * (gv (b + 1) + (b + 1)) := Int.mul_le_mul_of_nonneg_left (by omega) a0
    omega)
  have e7 : fNotIn (.int (gv (b + 1) - gv b)) (.tup [.int 0, .int 1]) = some (.bl false) := by
    have : gv (b + 1) - gv b = 0 ∨ gv (b + 1) - gv b = 1 := by omega
    rcases this with h | h
    · rw [h]; rfl
    · rw [h]; rfl
  have e9 : g_golden_number none [.int 2, .int b, .int 2] = .ok (.d (.int (b + gv (b + 1) + 2))) none := by
    rw [num22 b0 (by omega), show b + 1 + (gv (b + 1) + 1) = b + gv (b + 1) + 2 by omega]
  have qq : q * q ≤ 300000000000000000000000000000000000000 * 300000000000000000000000000000000000000 := Int.mul_self_le_mul_self q0 (by omega)
  have qq0 : 0 ≤ q * q := Int.mul_nonneg q0 q0
  have qe : (q + 1) * (q + 1) = q * q + 2 * q + 1 := by grind
  obtain ⟨t, t0, t1, t2, e11⟩ := whole_root_ok q0 (n_small (by omega))
  have tq : t ≤ q := by
    rcases Int.lt_or_le q t with h | h
    · have := Int.mul_self_le_mul_self (a := q + 1) (b := t) (by omega) (by omega)
      omega
    · exact h
  obtain ⟨u, u0, u1, u2, e13⟩ := whole_root_ok qq0 (n_small (by omega))
  have hu : u = q := root_unique u0 q0 u1 u2 (Int.le_refl _) (by omega)
  rw [hu] at e13
  obtain ⟨w, w0, w1, w2, e14⟩ := whole_root_ok (n := q * q + 2 * q) (by omega) (n_small (by omega))
  have hw : w = q := root_unique w0 q0 w1 w2 (by omega) (by omega)
  rw [hw] at e14
  have e15 : (q == 0) = false → g_whole_root none [.int (q * q - 1)] = .ok (.d (.int (q - 1))) none := fun h => by
    have hq : q ≠ 0 := by simpa using h
    have h1 : (q - 1) * (q - 1) = q * q - 2 * q + 1 := by grind
    have h2 : (q - 1 + 1) * (q - 1 + 1) = q * q := by grind
    obtain ⟨z, z0, z1, z2, e⟩ := whole_root_ok (n := q * q - 1) (by have := Int.mul_self_le_mul_self (a := 1) (b := q) (by omega) (by omega); omega) (n_small (by omega))
    have hz : z = q - 1 := root_unique z0 (by omega) z1 z2 (by omega) (by omega)
    rw [hz] at e
    exact e
  exact tail_run e1 (num11 b0 (by omega)) (is_share_ok l0 (by omega) b0 (by omega) l1 l2) (num12 b0 (by omega)) (num11 (by omega) (by omega)) (is_share_ok a0 (by omega) (by omega) (by omega) a1 a2) e7
    (num21 b0 (by omega)) e9 e10 e11 (whole_ok t) (decide_eq_false (by omega)) (decide_eq_false (by omega)) (mul_big t0 (by omega) t0 (by omega)) (mul_big (by omega) (by omega) (by omega) (by omega)) (mul_big q0 (by omega) q0 (by omega)) (cMul_left (by decide)) e13 e14 e15
theorem law_true (ns : List Int) (h : ns.length ≤ 63) : ∃ s, g_law none [.ro (ns.map D.int)] = .ok (.d (.bl true)) s := by
  obtain ⟨ps, hl, e⟩ := S.pot_ok ns h
  obtain ⟨m, ps1, m0, m1, hl1, e1⟩ := draw_ok ps 2 (by decide) hl
  obtain ⟨k, ps2, k0, k1, hl2, e2⟩ := draw_ok ps1 15 (by decide) hl1
  obtain ⟨a0, a2, a3, a4, a5, a6, a7, a8, a9, es⟩ := behind_ok (seg_all (ps2.map D.int) (.ro (ns.map D.int)) (m := 1 + m) (k := k) (by omega) ⟨k0, k1⟩)
  obtain ⟨ρ', et⟩ := tail_true ps2 hl2 a0 a2 a3 a4 a5 a6 a7 a8 a9
  have e' : g__law_pot none [.ro (ns.map D.int)] = .ok (.fr (ps.map D.int)) none := e
  refine ⟨none, ?_⟩
  unfold g_law
  refine (dDef_run (ρ := [.d (.ro (ns.map D.int)), .un, .un, .un, .un, .un, .un, .un, .un, .un, .un, .un, .un, .un]) (by rfl) (by decide) (by rfl)).trans ?_
  rw [law_def, mSeq_nx (head1_ok e'), mSeq_nx (head2_ok e1), mSeq_nx (s3_ok _ _ _), mSeq_nx (head4_ok e2)]
  rw [← mSeq_assoc m_law_7, ← mSeq_assoc m_law_6, ← mSeq_assoc m_law_5]
  rw [show mSeq m_law_5 (mSeq m_law_6 (mSeq m_law_7 m_law_8)) = seg by unfold seg; rfl]
  unfold env0 at es
  rw [mSeq_nx es, et]
  rfl
end K64
end VL

set_option Elab.async false
set_option linter.all false
set_option maxRecDepth 100000
set_option maxHeartbeats 4000000
namespace VL
open PySem PySem.Spec L2 He He5
namespace K64
abbrev P0 : Program := PySem.Challenge.pw_pursewebs_k64_golden_row
abbrev Rw : PySem.W.OpenRow := PySem.W.OpenLaw.row PySem.Challenge.rw_pursewebs_k64_golden_row
def top (i : Nat) : Stmt := P0.main.body.getD i (.Pass ⟨0, 0, 0, 0⟩)
def clsBody : Stmt → List Stmt
  | .ClassDef _ _ _ b _ _ _ _ _ _ _ => b
  | _ => []
def clsOf (K : PySem.W.Frag) : Nat → Addr
  | 0 => ga K "PurseError"
  | 1 => ga K "WrongKind"
  | 2 => ga K "WrongNumber"
  | 3 => ga K "WrongWeb"
  | 6 => ga K "TooMuch"
  | 10 => ga K "Web"
  | _ => 0
abbrev cK (K : PySem.W.Frag) : Kx := ⟨K, clsOf K⟩
def st__law_pot : Stmt := top 53
def d__law_pot : DefA := ⟨fun K => ga K "_law_pot", "_law_pot", "_law_pot", defArgs st__law_pot, defBody st__law_pot, defScope st__law_pot, [], []⟩
def st__law_draw : Stmt := top 54
def d__law_draw : DefA := ⟨fun K => ga K "_law_draw", "_law_draw", "_law_draw", defArgs st__law_draw, defBody st__law_draw, defScope st__law_draw, [], []⟩
def st__law_low : Stmt := top 56
def d__law_low : DefA := ⟨fun K => ga K "_law_low", "_law_low", "_law_low", defArgs st__law_low, defBody st__law_low, defScope st__law_low, [], []⟩
def st__law_high : Stmt := top 57
def d__law_high : DefA := ⟨fun K => ga K "_law_high", "_law_high", "_law_high", defArgs st__law_high, defBody st__law_high, defScope st__law_high, [], []⟩
def st__law_bank_cost : Stmt := top 58
def d__law_bank_cost : DefA := ⟨fun K => ga K "_law_bank_cost", "_law_bank_cost", "_law_bank_cost", defArgs st__law_bank_cost, defBody st__law_bank_cost, defScope st__law_bank_cost, [], []⟩
def st__law_bank_rows : Stmt := top 59
def d__law_bank_rows : DefA := ⟨fun K => ga K "_law_bank_rows", "_law_bank_rows", "_law_bank_rows", defArgs st__law_bank_rows, defBody st__law_bank_rows, defScope st__law_bank_rows, [], []⟩
def st_need_web : Stmt := top 27
def d_need_web : DefA := ⟨fun K => ga K "need_web", "need_web", "need_web", defArgs st_need_web, defBody st_need_web, defScope st_need_web, [], []⟩
def st_is_integer : Stmt := top 8
def d_is_integer : DefA := ⟨fun K => ga K "is_integer", "is_integer", "is_integer", defArgs st_is_integer, defBody st_is_integer, defScope st_is_integer, [], []⟩
def st_need_integer : Stmt := top 9
def d_need_integer : DefA := ⟨fun K => ga K "need_integer", "need_integer", "need_integer", defArgs st_need_integer, defBody st_need_integer, defScope st_need_integer, [], []⟩
def st_need_from : Stmt := top 11
def d_need_from : DefA := ⟨fun K => ga K "need_from", "need_from", "need_from", defArgs st_need_from, defBody st_need_from, defScope st_need_from, [], []⟩
def st_need_up_to : Stmt := top 13
def d_need_up_to : DefA := ⟨fun K => ga K "need_up_to", "need_up_to", "need_up_to", defArgs st_need_up_to, defBody st_need_up_to, defScope st_need_up_to, [], []⟩
def st_Web__greatest_due : Stmt := (clsBody (top 25)).getD 12 (.Pass ⟨0, 0, 0, 0⟩)
def d_Web__greatest_due : DefA := ⟨fun K => wf K (ga K "Web") "property" "greatest_due", "greatest_due", "Web.greatest_due", defArgs st_Web__greatest_due, defBody st_Web__greatest_due, defScope st_Web__greatest_due, [], []⟩
def st_Web__dues : Stmt := (clsBody (top 25)).getD 9 (.Pass ⟨0, 0, 0, 0⟩)
def d_Web__dues : DefA := ⟨fun K => wf K (ga K "Web") "property" "dues", "dues", "Web.dues", defArgs st_Web__dues, defBody st_Web__dues, defScope st_Web__dues, [], []⟩
def st_bank_owed : Stmt := top 42
def d_bank_owed : DefA := ⟨fun K => ga K "bank_owed", "bank_owed", "bank_owed", defArgs st_bank_owed, defBody st_bank_owed, defScope st_bank_owed, [], []⟩
def st_Web__size : Stmt := (clsBody (top 25)).getD 5 (.Pass ⟨0, 0, 0, 0⟩)
def d_Web__size : DefA := ⟨fun K => wf K (ga K "Web") "property" "size", "size", "Web.size", defArgs st_Web__size, defBody st_Web__size, defScope st_Web__size, [], []⟩
def st_bank_lesser : Stmt := top 38
def d_bank_lesser : DefA := ⟨fun K => ga K "bank_lesser", "bank_lesser", "bank_lesser", defArgs st_bank_lesser, defBody st_bank_lesser, defScope st_bank_lesser, [], []⟩
def st_Web__first : Stmt := (clsBody (top 25)).getD 6 (.Pass ⟨0, 0, 0, 0⟩)
def d_Web__first : DefA := ⟨fun K => wf K (ga K "Web") "property" "first", "first", "Web.first", defArgs st_Web__first, defBody st_Web__first, defScope st_Web__first, [], []⟩
def st_bank_low : Stmt := top 40
def d_bank_low : DefA := ⟨fun K => ga K "bank_low", "bank_low", "bank_low", defArgs st_bank_low, defBody st_bank_low, defScope st_bank_low, [], []⟩
def st_Web__second : Stmt := (clsBody (top 25)).getD 7 (.Pass ⟨0, 0, 0, 0⟩)
def d_Web__second : DefA := ⟨fun K => wf K (ga K "Web") "property" "second", "second", "Web.second", defArgs st_Web__second, defBody st_Web__second, defScope st_Web__second, [], []⟩
def st_bank_greater : Stmt := top 39
def d_bank_greater : DefA := ⟨fun K => ga K "bank_greater", "bank_greater", "bank_greater", defArgs st_bank_greater, defBody st_bank_greater, defScope st_bank_greater, [], []⟩
def st_bank_high : Stmt := top 41
def d_bank_high : DefA := ⟨fun K => ga K "bank_high", "bank_high", "bank_high", defArgs st_bank_high, defBody st_bank_high, defScope st_bank_high, [], []⟩
def st_Web__marks : Stmt := (clsBody (top 25)).getD 8 (.Pass ⟨0, 0, 0, 0⟩)
def d_Web__marks : DefA := ⟨fun K => wf K (ga K "Web") "property" "marks", "marks", "Web.marks", defArgs st_Web__marks, defBody st_Web__marks, defScope st_Web__marks, [], []⟩
def st_bank_ways : Stmt := top 43
def d_bank_ways : DefA := ⟨fun K => ga K "bank_ways", "bank_ways", "bank_ways", defArgs st_bank_ways, defBody st_bank_ways, defScope st_bank_ways, [], []⟩
def st_bank_price_at : Stmt := top 44
def d_bank_price_at : DefA := ⟨fun K => ga K "bank_price_at", "bank_price_at", "bank_price_at", defArgs st_bank_price_at, defBody st_bank_price_at, defScope st_bank_price_at, [], []⟩
def st_bank_next : Stmt := top 45
def d_bank_next : DefA := ⟨fun K => ga K "bank_next", "bank_next", "bank_next", defArgs st_bank_next, defBody st_bank_next, defScope st_bank_next, [], []⟩
def st_bank_last : Stmt := top 46
def d_bank_last : DefA := ⟨fun K => ga K "bank_last", "bank_last", "bank_last", defArgs st_bank_last, defBody st_bank_last, defScope st_bank_last, [], []⟩
def st_bank_rows_to : Stmt := top 47
def d_bank_rows_to : DefA := ⟨fun K => ga K "bank_rows_to", "bank_rows_to", "bank_rows_to", defArgs st_bank_rows_to, defBody st_bank_rows_to, defScope st_bank_rows_to, [], []⟩
def st_bank_rows : Stmt := top 48
def d_bank_rows : DefA := ⟨fun K => ga K "bank_rows", "bank_rows", "bank_rows", defArgs st_bank_rows, defBody st_bank_rows, defScope st_bank_rows, [], []⟩
def st_need_between : Stmt := top 12
def d_need_between : DefA := ⟨fun K => ga K "need_between", "need_between", "need_between", defArgs st_need_between, defBody st_need_between, defScope st_need_between, [], []⟩
def st_need_made : Stmt := top 26
def d_need_made : DefA := ⟨fun K => ga K "need_made", "need_made", "need_made", defArgs st_need_made, defBody st_need_made, defScope st_need_made, [], []⟩
def st_need_list : Stmt := top 10
def d_need_list : DefA := ⟨fun K => ga K "need_list", "need_list", "need_list", defArgs st_need_list, defBody st_need_list, defScope st_need_list, [], []⟩
def st_need_integers : Stmt := top 14
def d_need_integers : DefA := ⟨fun K => ga K "need_integers", "need_integers", "need_integers", defArgs st_need_integers, defBody st_need_integers, defScope st_need_integers, [], []⟩
def st_has_due_kind : Stmt := top 17
def d_has_due_kind : DefA := ⟨fun K => ga K "has_due_kind", "has_due_kind", "has_due_kind", defArgs st_has_due_kind, defBody st_has_due_kind, defScope st_has_due_kind, [], []⟩
def st__look_kinds : Stmt := top 22
def d__look_kinds : DefA := ⟨fun K => ga K "_look_kinds", "_look_kinds", "_look_kinds", defArgs st__look_kinds, defBody st__look_kinds, defScope st__look_kinds, [], []⟩
def st_has_due_range : Stmt := top 18
def d_has_due_range : DefA := ⟨fun K => ga K "has_due_range", "has_due_range", "has_due_range", defArgs st_has_due_range, defBody st_has_due_range, defScope st_has_due_range, [], []⟩
def st__look_stand : Stmt := top 23
def d__look_stand : DefA := ⟨fun K => ga K "_look_stand", "_look_stand", "_look_stand", defArgs st__look_stand, defBody st__look_stand, defScope st__look_stand, [], []⟩
def st__look_web : Stmt := top 24
def d__look_web : DefA := ⟨fun K => ga K "_look_web", "_look_web", "_look_web", defArgs st__look_web, defBody st__look_web, defScope st__look_web, [], []⟩
def st_kept_due : Stmt := top 19
def d_kept_due : DefA := ⟨fun K => ga K "kept_due", "kept_due", "kept_due", defArgs st_kept_due, defBody st_kept_due, defScope st_kept_due, [], []⟩
def st_Web____init__ : Stmt := (clsBody (top 25)).getD 1 (.Pass ⟨0, 0, 0, 0⟩)
def d_Web____init__ : DefA := ⟨fun K => ma K (ga K "Web") "__init__", "__init__", "Web.__init__", defArgs st_Web____init__, defBody st_Web____init__, defScope st_Web____init__, [], []⟩
def st_Web__line : Stmt := (clsBody (top 25)).getD 3 (.Pass ⟨0, 0, 0, 0⟩)
def d_Web__line : DefA := ⟨fun K => wf K (ga K "Web") "classmethod" "line", "line", "Web.line", defArgs st_Web__line, defBody st_Web__line, defScope st_Web__line, [.int (1)], []⟩
def st_golden_root : Stmt := top 31
def d_golden_root : DefA := ⟨fun K => ga K "golden_root", "golden_root", "golden_root", defArgs st_golden_root, defBody st_golden_root, defScope st_golden_root, [], []⟩
def st_golden_base : Stmt := top 32
def d_golden_base : DefA := ⟨fun K => ga K "golden_base", "golden_base", "golden_base", defArgs st_golden_base, defBody st_golden_base, defScope st_golden_base, [], []⟩
def st_golden_number : Stmt := top 34
def d_golden_number : DefA := ⟨fun K => ga K "golden_number", "golden_number", "golden_number", defArgs st_golden_number, defBody st_golden_number, defScope st_golden_number, [], []⟩
def st__law_whole : Stmt := top 55
def d__law_whole : DefA := ⟨fun K => ga K "_law_whole", "_law_whole", "_law_whole", defArgs st__law_whole, defBody st__law_whole, defScope st__law_whole, [], []⟩
def st_need_stand : Stmt := top 28
def d_need_stand : DefA := ⟨fun K => ga K "need_stand", "need_stand", "need_stand", defArgs st_need_stand, defBody st_need_stand, defScope st_need_stand, [], []⟩
def st_need_bank_against : Stmt := top 50
def d_need_bank_against : DefA := ⟨fun K => ga K "need_bank_against", "need_bank_against", "need_bank_against", defArgs st_need_bank_against, defBody st_need_bank_against, defScope st_need_bank_against, [], []⟩
def st_bank_against : Stmt := top 51
def d_bank_against : DefA := ⟨fun K => ga K "bank_against", "bank_against", "bank_against", defArgs st_bank_against, defBody st_bank_against, defScope st_bank_against, [], []⟩
def st__law_great : Stmt := top 60
def d__law_great : DefA := ⟨fun K => ga K "_law_great", "_law_great", "_law_great", defArgs st__law_great, defBody st__law_great, defScope st__law_great, [], []⟩
def st__law_is_share : Stmt := top 61
def d__law_is_share : DefA := ⟨fun K => ga K "_law_is_share", "_law_is_share", "_law_is_share", defArgs st__law_is_share, defBody st__law_is_share, defScope st__law_is_share, [], []⟩
def st_whole_root : Stmt := top 33
def d_whole_root : DefA := ⟨fun K => ga K "whole_root", "whole_root", "whole_root", defArgs st_whole_root, defBody st_whole_root, defScope st_whole_root, [], []⟩
def st_law : Stmt := top 62
def d_law : DefA := ⟨fun K => ga K "law", "law", "law", defArgs st_law, defBody st_law, defScope st_law, [], []⟩
def fn : List DefA := [d__law_pot, d__law_draw, d__law_low, d__law_high, d__law_bank_cost, d__law_bank_rows, d_need_web, d_is_integer, d_need_integer, d_need_from, d_need_up_to, d_Web__greatest_due, d_Web__dues, d_bank_owed, d_Web__size, d_bank_lesser, d_Web__first, d_bank_low, d_Web__second, d_bank_greater, d_bank_high, d_Web__marks, d_bank_ways, d_bank_price_at, d_bank_next, d_bank_last, d_bank_rows_to, d_bank_rows, d_need_between, d_need_made, d_need_list, d_need_integers, d_has_due_kind, d__look_kinds, d_has_due_range, d__look_stand, d__look_web, d_kept_due, d_Web____init__, d_Web__line, d_golden_root, d_golden_base, d_golden_number, d__law_whole, d_need_stand, d_need_bank_against, d_bank_against, d__law_great, d__law_is_share, d_whole_root, d_law]
def fa : List Fa := [.glo "law", .free "len", .free "min", .free "range", .free "int", .glo "_law_pot", .keep "_law_pot", .glo "_law_draw", .keep "_law_draw", .free "list", .glo "_law_low", .keep "_law_low", .free "max", .glo "_law_high", .keep "_law_high", .glo "_law_bank_cost", .keep "_law_bank_cost", .glo "_law_bank_rows", .keep "_law_bank_rows", .free "isinstance", .glo "Web", .glo "WrongKind", .glo "need_web", .keep "need_web", .free "bool", .glo "is_integer", .keep "is_integer", .glo "need_integer", .keep "need_integer", .glo "WrongNumber", .glo "need_from", .keep "need_from", .glo "TooMuch", .int "BANK_MOST" (60), .glo "need_up_to", .keep "need_up_to", .int "BANK_DUE" (1000000), .glo "bank_owed", .keep "bank_owed", .free "tuple", .glo "bank_lesser", .keep "bank_lesser", .glo "bank_low", .keep "bank_low", .glo "bank_greater", .keep "bank_greater", .glo "bank_high", .keep "bank_high", .glo "bank_ways", .keep "bank_ways", .glo "bank_price_at", .keep "bank_price_at", .glo "bank_next", .keep "bank_next", .glo "bank_last", .keep "bank_last", .glo "bank_rows_to", .keep "bank_rows_to", .glo "need_between", .keep "need_between", .int "MOST_STANDS" (60), .glo "need_made", .keep "need_made", .glo "need_list", .keep "need_list", .glo "need_integers", .keep "need_integers", .free "str", .glo "has_due_kind", .keep "has_due_kind", .glo "_look_kinds", .keep "_look_kinds", .glo "WrongWeb", .glo "has_due_range", .keep "has_due_range", .glo "_look_stand", .keep "_look_stand", .int "GREATEST_DUE" (10000000000000000000000000000000000000000), .glo "_look_web", .keep "_look_web", .free "sorted", .free "set", .glo "kept_due", .keep "kept_due", .mkr "Web", .glo "bank_rows", .keep "bank_rows", .int "FAR_CHIPS" (10000000000000000000000000000000000000000), .glo "golden_root", .keep "golden_root", .glo "golden_base", .keep "golden_base", .glo "golden_number", .keep "golden_number", .glo "_law_whole", .keep "_law_whole", .glo "need_stand", .keep "need_stand", .glo "need_bank_against", .keep "need_bank_against", .glo "bank_against", .keep "bank_against", .glo "_law_great", .keep "_law_great", .glo "_law_is_share", .keep "_law_is_share", .glo "whole_root", .keep "whole_root"]
def exs : List (PySem.W.Frag → Bool) := [(fun K => kisB (cK K) 10 [10]),
  (fun K => excB (cK K).K ((cK K).cls 1)),
  (fun K => excB (cK K).K ((cK K).cls 2)),
  (fun K => excB (cK K).K ((cK K).cls 6)),
  (fun K => sclsB K (ga K "Web")),
  (fun K => slot1B K (ga K "Web") "_dues" 0),
  (fun K => propB K (ga K "Web") "greatest_due"),
  (fun K => slot1B K (ga K "Web") "_greatest_due" 3),
  (fun K => propB K (ga K "Web") "dues"),
  (fun K => propB K (ga K "Web") "size"),
  (fun K => slot1B K (ga K "Web") "_marks" 4),
  (fun K => propB K (ga K "Web") "first"),
  (fun K => slot1B K (ga K "Web") "_first" 2),
  (fun K => propB K (ga K "Web") "second"),
  (fun K => slot1B K (ga K "Web") "_second" 6),
  (fun K => propB K (ga K "Web") "marks"),
  (fun K => excB (cK K).K ((cK K).cls 3)),
  (fun K => slot1B K (ga K "Web") "_ends" 1),
  (fun K => slot1B K (ga K "Web") "_moving" 5),
  (fun K => cmB K (ga K "Web") "line")]
abbrev ex : PySem.W.Frag → Bool := fun K => exs.all fun f => f K
end K64
end VL

set_option Elab.async false
set_option linter.all false
set_option maxRecDepth 100000
set_option maxHeartbeats 4000000
namespace VL
open PySem PySem.Spec L2 He He5
namespace K64
section
variable {Pg : Program} {w : World} {K : PySem.W.Frag} {mg : Str → Option Value} {base h : Heap}
theorem sc__law_pot : FnScope ["_law_script", "_law_pot_here", "_law_place", "_law_number", "_law_shift", "_law_turn", "_law_mixed"] ["_law_script"] (defScope st__law_pot) := ⟨rfl, rfl, rfl, by decide +kernel, rfl, by decide +kernel, by decide +kernel⟩
theorem fo__law_pot (KX : K.In h) (G : h.Ns mainGlobals mg) (c : SaysV fa fn ex K) {fd : FuncData} (F : FunD K "_law_pot" "_law_pot" (defArgs st__law_pot) (defBody st__law_pot) (defScope st__law_pot) (d__law_pot.dvs K) [] ((d__law_pot).at_ K) fd) : FnOk Pg w K mg base (L2.CX Pg w) 1 ((d__law_pot).at_ K) fd ["_law_script"] (SpOf (cK K) g__law_pot) :=
  fn_def (N := ["_law_script", "_law_pot_here", "_law_place", "_law_number", "_law_shift", "_law_turn", "_law_mixed"]) (mb := m__law_pot) F sc__law_pot fun cdv A outer s H E hr => by
  have nd : (["_law_script", "_law_pot_here", "_law_place", "_law_number", "_law_shift", "_law_turn", "_law_mixed"] : List Str).Nodup := sc__law_pot.nd
  exact (sndSs_cons (sndS_own (sndF_lst sndA_nil) (pg_name (i := 1) nd rfl (.inl rfl) (.inl rfl)) rfl rfl rfl)
 (sndSs_cons (sndS_for (passes_of rfl) rfl (sndI_rng1 rfl (free_ok KX G (c.a.fact 3 (f := .free "range") rfl)) (snd_callB (h_min rfl) o_min rfl (free_ok KX G (c.a.fact 2 (f := .free "min") rfl)) rfl (sndA_cons (snd_callB call_len o_len rfl (free_ok KX G (c.a.fact 1 (f := .free "len") rfl)) rfl (sndA_cons (snd_var (pe_var (i := 0) rfl (.inl rfl) rfl rfl)) sndA_nil rfl) (by decide) rfl rfl rfl) (sndA_cons (snd_const pe_int (fun _ => Rep.ofInt)) sndA_nil rfl) rfl) (by decide) rfl rfl rfl) rfl) (sndG_name (pg_name (i := 2) nd rfl (.inl rfl) (.inl rfl))) (sndSs_cons (sndS_asg (noExc_name 3) (snd_callTy call_int1 o_int rfl (free_ok KX G (c.a.fact 4 (f := .free "int") rfl)) rfl (sndA_cons (snd_ix ix_seq o_ix (fun _ _ => rfl) (snd_var (pe_var (i := 0) rfl (.inl rfl) rfl rfl)) (snd_var (pe_var (i := 2) rfl (.inl rfl) rfl rfl))) sndA_nil rfl) (by decide) rfl rfl rfl) (sndG_name (pg_name (i := 3) nd rfl (.inl rfl) (.inl rfl))) rfl rfl rfl)
 (sndSs_cons (sndS_asg (noExc_name 4) (snd_const pe_int (fun _ => Rep.ofInt)) (sndG_name (pg_name (i := 4) nd rfl (.inl rfl) (.inl rfl))) rfl rfl rfl)
 (sndSs_cons (sndS_if (snd_cmpT op_lt o_lt (by first | rfl | exact nomark _) (snd_var (pe_var (i := 3) rfl (.inl rfl) rfl rfl)) (snd_const pe_int (fun _ => Rep.ofInt))) (sndSs_cons (sndS_asg (noExc_name 3) (snd_bin op_sub o_sub (snd_const pe_int (fun _ => Rep.ofInt)) (snd_var (pe_var (i := 3) rfl (.inl rfl) rfl rfl))) (sndG_name (pg_name (i := 3) nd rfl (.inl rfl) (.inl rfl))) rfl rfl rfl)
 (sndSs_cons (sndS_asg (noExc_name 4) (snd_const pe_int (fun _ => Rep.ofInt)) (sndG_name (pg_name (i := 4) nd rfl (.inl rfl) (.inl rfl))) rfl rfl rfl)
 sndSs_nil)) sndSs_nil)
 (sndSs_cons (sndS_if (snd_cmpT op_ge o_ge (by first | rfl | exact nomark _) (snd_var (pe_var (i := 3) rfl (.inl rfl) rfl rfl)) (snd_bin op_pow o_pow (snd_const pe_int (fun _ => Rep.ofInt)) (snd_const pe_int (fun _ => Rep.ofInt)))) (sndSs_cons (sndS_for (passes_of rfl) rfl (sndI_rng1 rfl (free_ok KX G (c.a.fact 3 (f := .free "range") rfl)) (snd_const pe_int (fun _ => Rep.ofInt)) rfl) (sndG_name (pg_name (i := 5) nd rfl (.inl rfl) (.inl rfl))) (sndSs_cons (sndS_if (snd_cmpT op_gt o_gt (by first | rfl | exact nomark _) (snd_var (pe_var (i := 3) rfl (.inl rfl) rfl rfl)) (snd_const pe_int (fun _ => Rep.ofInt))) (sndSs_cons (sndS_expr (snd_methN o_append (fun h ha => pe_bm PySem.F.plainAttrs_list PySem.F.slot_list_append PySem.F.type_list_append mt_append h ha rfl rfl rfl rfl rfl) (pe_var (i := 1) rfl (.inl rfl) rfl rfl) (sndA_cons (snd_bin op_mod o_mod (snd_callTy call_int1 o_int rfl (free_ok KX G (c.a.fact 4 (f := .free "int") rfl)) rfl (sndA_cons (snd_var (pe_var (i := 3) rfl (.inl rfl) rfl rfl)) sndA_nil rfl) (by decide) rfl rfl rfl) (snd_const pe_int (fun _ => Rep.ofInt))) sndA_nil rfl)) rfl)
 (sndSs_cons (sndS_asg (noExc_name 3) (snd_bin op_fdivW o_div (snd_var (pe_var (i := 3) rfl (.inl rfl) rfl rfl)) (snd_const pe_int (fun _ => Rep.ofInt))) (sndG_name (pg_name (i := 3) nd rfl (.inl rfl) (.inl rfl))) rfl rfl rfl)
 sndSs_nil)) sndSs_nil)
 sndSs_nil) (fun _ => rfl))
 sndSs_nil) (sndSs_cons (sndS_asg (noExc_name 6) (snd_bin op_mod o_mod (snd_callTy call_int1 o_int rfl (free_ok KX G (c.a.fact 4 (f := .free "int") rfl)) rfl (sndA_cons (snd_bin h_add o_add (snd_bin h_add o_add (snd_bin h_mul o_mul (snd_var (pe_var (i := 3) rfl (.inl rfl) rfl rfl)) (snd_const pe_int (fun _ => Rep.ofInt))) (snd_bin h_mul o_mul (snd_var (pe_var (i := 2) rfl (.inl rfl) rfl rfl)) (snd_const pe_int (fun _ => Rep.ofInt)))) (snd_var (pe_var (i := 4) rfl (.inl rfl) rfl rfl))) sndA_nil rfl) (by decide) rfl rfl rfl) (snd_const pe_int (fun _ => Rep.ofInt))) (sndG_name (pg_name (i := 6) nd rfl (.inl rfl) (.inl rfl))) rfl rfl rfl)
 (sndSs_cons (sndS_for (passes_of rfl) rfl (sndI_rng1 rfl (free_ok KX G (c.a.fact 3 (f := .free "range") rfl)) (snd_const pe_int (fun _ => Rep.ofInt)) rfl) (sndG_name (pg_name (i := 5) nd rfl (.inl rfl) (.inl rfl))) (sndSs_cons (sndS_asg (noExc_name 6) (snd_bin op_mod o_mod (snd_callTy call_int1 o_int rfl (free_ok KX G (c.a.fact 4 (f := .free "int") rfl)) rfl (sndA_cons (snd_bin h_add o_add (snd_bin h_add o_add (snd_bin h_add o_add (snd_bin h_mul o_mul (snd_var (pe_var (i := 6) rfl (.inl rfl) rfl rfl)) (snd_var (pe_var (i := 6) rfl (.inl rfl) rfl rfl))) (snd_bin h_mul o_mul (snd_var (pe_var (i := 5) rfl (.inl rfl) rfl rfl)) (snd_const pe_int (fun _ => Rep.ofInt)))) (snd_bin h_mul o_mul (snd_var (pe_var (i := 2) rfl (.inl rfl) rfl rfl)) (snd_const pe_int (fun _ => Rep.ofInt)))) (snd_const pe_int (fun _ => Rep.ofInt))) sndA_nil rfl) (by decide) rfl rfl rfl) (snd_const pe_int (fun _ => Rep.ofInt))) (sndG_name (pg_name (i := 6) nd rfl (.inl rfl) (.inl rfl))) rfl rfl rfl)
 (sndSs_cons (sndS_expr (snd_methN o_append (fun h ha => pe_bm PySem.F.plainAttrs_list PySem.F.slot_list_append PySem.F.type_list_append mt_append h ha rfl rfl rfl rfl rfl) (pe_var (i := 1) rfl (.inl rfl) rfl rfl) (sndA_cons (snd_var (pe_var (i := 6) rfl (.inl rfl) rfl rfl)) sndA_nil rfl)) rfl)
 sndSs_nil)) (fun _ => rfl))
 sndSs_nil)))
 sndSs_nil)))) (fun _ => rfl))
 (sndSs_cons (sndS_expr (snd_meth0 (name := "reverse") (id := "list.reverse") (apos := ⟨0, 0, 0, 0⟩) o_reverse (fun h => pe_bm0 PySem.F.plainAttrs_list PySem.F.slot_list_reverse PySem.F.type_list_reverse mt_reverse h rfl rfl) (pe_var (i := 1) rfl (.inl rfl) rfl rfl)) rfl)
 (sndSs_cons (sndS_ret (snd_var (pe_var (i := 1) rfl (.inl rfl) rfl rfl)))
 sndSs_nil))))
theorem ok__law_pot (KX : K.In h) (G : h.Ns mainGlobals mg) (c : SaysV fa fn ex K) : FnR Pg w K mg base (L2.CX Pg w) 1 ((d__law_pot).at_ K) (SpOf (cK K) g__law_pot) := by
  obtain ⟨fd, F⟩ := c.a.def_ 0 (d := d__law_pot) rfl
  exact fnR_all (fo__law_pot KX G c F) (FunD.bindsN F fun _ _ _ _ _ _ us hl => match us, hl with | [_], _ => rfl)
theorem sc__law_draw : FnScope ["_law_pot_here", "_law_many"] ["_law_pot_here", "_law_many"] (defScope st__law_draw) := ⟨rfl, rfl, rfl, by decide +kernel, rfl, by decide +kernel, by decide +kernel⟩
theorem fo__law_draw (KX : K.In h) (G : h.Ns mainGlobals mg) (c : SaysV fa fn ex K) {fd : FuncData} (F : FunD K "_law_draw" "_law_draw" (defArgs st__law_draw) (defBody st__law_draw) (defScope st__law_draw) (d__law_draw.dvs K) [] ((d__law_draw).at_ K) fd) : FnOk Pg w K mg base (L2.CX Pg w) 1 ((d__law_draw).at_ K) fd ["_law_pot_here", "_law_many"] (SpOf (cK K) g__law_draw) :=
  fn_def (N := ["_law_pot_here", "_law_many"]) (mb := m__law_draw) F sc__law_draw fun cdv A outer s H E hr => by
  have nd : (["_law_pot_here", "_law_many"] : List Str).Nodup := sc__law_draw.nd
  exact (sndSs_cons (sndS_if (snd_cmpT (op_eqD hr.units) o_eq (by first | rfl | exact nomark _) (snd_callB call_len o_len rfl (free_ok KX G (c.a.fact 1 (f := .free "len") rfl)) rfl (sndA_cons (snd_var (pe_var (i := 0) rfl (.inl rfl) rfl rfl)) sndA_nil rfl) (by decide) rfl rfl rfl) (snd_const pe_int (fun _ => Rep.ofInt))) (sndSs_cons (sndS_ret (snd_const pe_int (fun _ => Rep.ofInt)))
 sndSs_nil) sndSs_nil)
 (sndSs_cons (sndS_ret (snd_bin op_mod o_mod (snd_callTy call_int1 o_int rfl (free_ok KX G (c.a.fact 4 (f := .free "int") rfl)) rfl (sndA_cons (snd_meth0 (name := "pop") (id := "list.pop") (apos := ⟨0, 0, 0, 0⟩) o_pop (fun h => pe_bm0 PySem.F.plainAttrs_list PySem.F.slot_list_pop PySem.F.type_list_pop mt_pop h rfl rfl) (pe_var (i := 0) rfl (.inl rfl) rfl rfl)) sndA_nil rfl) (by decide) rfl rfl rfl) (snd_var (pe_var (i := 1) rfl (.inl rfl) rfl rfl))))
 sndSs_nil))
theorem ok__law_draw (KX : K.In h) (G : h.Ns mainGlobals mg) (c : SaysV fa fn ex K) : FnR Pg w K mg base (L2.CX Pg w) 1 ((d__law_draw).at_ K) (SpOf (cK K) g__law_draw) := by
  obtain ⟨fd, F⟩ := c.a.def_ 1 (d := d__law_draw) rfl
  exact fnR_all (fo__law_draw KX G c F) (FunD.bindsN F fun _ _ _ _ _ _ us hl => match us, hl with | [_, _], _ => rfl)
theorem sc__law_low : FnScope ["_law_web", "_law_row", "_law_stand", "_law_step"] ["_law_web", "_law_row", "_law_stand"] (defScope st__law_low) := ⟨rfl, rfl, rfl, by decide +kernel, rfl, by decide +kernel, by decide +kernel⟩
theorem fo__law_low (KX : K.In h) (G : h.Ns mainGlobals mg) (c : SaysV fa fn ex K) {fd : FuncData} (F : FunD K "_law_low" "_law_low" (defArgs st__law_low) (defBody st__law_low) (defScope st__law_low) (d__law_low.dvs K) [] ((d__law_low).at_ K) fd) : FnOk Pg w K mg base (L2.CX Pg w) 1 ((d__law_low).at_ K) fd ["_law_web", "_law_row", "_law_stand"] (SpOf (cK K) g__law_low) :=
  fn_def (N := ["_law_web", "_law_row", "_law_stand", "_law_step"]) (mb := m__law_low) F sc__law_low fun cdv A outer s H E hr => by
  have nd : (["_law_web", "_law_row", "_law_stand", "_law_step"] : List Str).Nodup := sc__law_low.nd
  exact (sndSs_cons (sndS_ret (snd_callB (h_min rfl) o_min rfl (free_ok KX G (c.a.fact 2 (f := .free "min") rfl)) rfl (sndA_cons (snd_frzF (sndF_comp (own := [("_law_step", 3)]) rfl nd (sndI_seq rfl (snd_ix ix_seq o_ix (fun _ _ => rfl) (snd_ix ix_seq o_ix (fun _ _ => rfl) (snd_var (pe_var (i := 0) rfl (.inl rfl) rfl rfl)) (snd_const pe_int (fun _ => Rep.ofInt))) (snd_var (pe_var (i := 2) rfl (.inl rfl) rfl rfl)))) (blkB_ok (N := ["_law_web", "_law_row", "_law_stand", "_law_step"]) (sc := defScope st__law_low) rfl (by decide +kernel)) (fun _ _ _ _ _ => (sndG_name (pg_name (i := 3) nd rfl (.inl rfl) (.inr rfl)))) (fun _ _ _ _ _ => sndTs_nil) (fun _ _ _ _ _ => (snd_ix ix_seq o_ix (fun _ _ => rfl) (snd_var (pe_var (i := 1) rfl (.inr (.inl rfl)) rfl rfl)) (snd_var (pe_var (i := 3) rfl (.inl rfl) rfl rfl)))) (fun _ => rfl))) sndA_nil rfl) (by decide) rfl rfl rfl))
 sndSs_nil)
theorem ok__law_low (KX : K.In h) (G : h.Ns mainGlobals mg) (c : SaysV fa fn ex K) : FnR Pg w K mg base (L2.CX Pg w) 1 ((d__law_low).at_ K) (SpOf (cK K) g__law_low) := by
  obtain ⟨fd, F⟩ := c.a.def_ 2 (d := d__law_low) rfl
  exact fnR_all (fo__law_low KX G c F) (FunD.bindsN F fun _ _ _ _ _ _ us hl => match us, hl with | [_, _, _], _ => rfl)
theorem sc__law_high : FnScope ["_law_web", "_law_row", "_law_stand", "_law_step"] ["_law_web", "_law_row", "_law_stand"] (defScope st__law_high) := ⟨rfl, rfl, rfl, by decide +kernel, rfl, by decide +kernel, by decide +kernel⟩
theorem fo__law_high (KX : K.In h) (G : h.Ns mainGlobals mg) (c : SaysV fa fn ex K) {fd : FuncData} (F : FunD K "_law_high" "_law_high" (defArgs st__law_high) (defBody st__law_high) (defScope st__law_high) (d__law_high.dvs K) [] ((d__law_high).at_ K) fd) : FnOk Pg w K mg base (L2.CX Pg w) 1 ((d__law_high).at_ K) fd ["_law_web", "_law_row", "_law_stand"] (SpOf (cK K) g__law_high) :=
  fn_def (N := ["_law_web", "_law_row", "_law_stand", "_law_step"]) (mb := m__law_high) F sc__law_high fun cdv A outer s H E hr => by
  have nd : (["_law_web", "_law_row", "_law_stand", "_law_step"] : List Str).Nodup := sc__law_high.nd
  exact (sndSs_cons (sndS_ret (snd_callB (h_max rfl) o_max rfl (free_ok KX G (c.a.fact 12 (f := .free "max") rfl)) rfl (sndA_cons (snd_frzF (sndF_comp (own := [("_law_step", 3)]) rfl nd (sndI_seq rfl (snd_ix ix_seq o_ix (fun _ _ => rfl) (snd_ix ix_seq o_ix (fun _ _ => rfl) (snd_var (pe_var (i := 0) rfl (.inl rfl) rfl rfl)) (snd_const pe_int (fun _ => Rep.ofInt))) (snd_var (pe_var (i := 2) rfl (.inl rfl) rfl rfl)))) (blkB_ok (N := ["_law_web", "_law_row", "_law_stand", "_law_step"]) (sc := defScope st__law_high) rfl (by decide +kernel)) (fun _ _ _ _ _ => (sndG_name (pg_name (i := 3) nd rfl (.inl rfl) (.inr rfl)))) (fun _ _ _ _ _ => sndTs_nil) (fun _ _ _ _ _ => (snd_ix ix_seq o_ix (fun _ _ => rfl) (snd_var (pe_var (i := 1) rfl (.inr (.inl rfl)) rfl rfl)) (snd_var (pe_var (i := 3) rfl (.inl rfl) rfl rfl)))) (fun _ => rfl))) sndA_nil rfl) (by decide) rfl rfl rfl))
 sndSs_nil)
theorem ok__law_high (KX : K.In h) (G : h.Ns mainGlobals mg) (c : SaysV fa fn ex K) : FnR Pg w K mg base (L2.CX Pg w) 1 ((d__law_high).at_ K) (SpOf (cK K) g__law_high) := by
  obtain ⟨fd, F⟩ := c.a.def_ 3 (d := d__law_high) rfl
  exact fnR_all (fo__law_high KX G c F) (FunD.bindsN F fun _ _ _ _ _ _ us hl => match us, hl with | [_, _, _], _ => rfl)
theorem sc__law_bank_cost : FnScope ["_law_web", "_law_rows", "_law_row", "_law_b", "_law_stand", "_law_most", "_law_low_here", "_law_best", "_law_x", "_law_rest", "_law_high_here", "_law_cost"] ["_law_web", "_law_rows", "_law_row", "_law_b", "_law_stand", "_law_most"] (defScope st__law_bank_cost) := ⟨rfl, rfl, rfl, by decide +kernel, rfl, by decide +kernel, by decide +kernel⟩
theorem fo__law_bank_cost (KX : K.In h) (G : h.Ns mainGlobals mg) (c : SaysV fa fn ex K) {fd : FuncData} (F : FunD K "_law_bank_cost" "_law_bank_cost" (defArgs st__law_bank_cost) (defBody st__law_bank_cost) (defScope st__law_bank_cost) (d__law_bank_cost.dvs K) [] ((d__law_bank_cost).at_ K) fd) : FnOk Pg w K mg base (L2.CX Pg w) 2 ((d__law_bank_cost).at_ K) fd ["_law_web", "_law_rows", "_law_row", "_law_b", "_law_stand", "_law_most"] (SpOf (cK K) g__law_bank_cost) :=
  fn_def (N := ["_law_web", "_law_rows", "_law_row", "_law_b", "_law_stand", "_law_most", "_law_low_here", "_law_best", "_law_x", "_law_rest", "_law_high_here", "_law_cost"]) (mb := m__law_bank_cost) F sc__law_bank_cost fun cdv A outer s H E hr => by
  have nd : (["_law_web", "_law_rows", "_law_row", "_law_b", "_law_stand", "_law_most", "_law_low_here", "_law_best", "_law_x", "_law_rest", "_law_high_here", "_law_cost"] : List Str).Nodup := sc__law_bank_cost.nd
  exact (sndSs_cons (sndS_asg (noExc_name 6) (snd_rv (snd_call (io := false) ((ok__law_low (Pg := Pg) (w := w) (base := base) KX G c).mono (show 1 ≤ 1 by decide)) hr rfl (glo_ok KX G (c.a.fact 10 (f := .glo "_law_low") rfl)) (keep_ok (c.a.fact 11 (f := .keep "_law_low") rfl)) (sndA_cons (snd_var (pe_var (i := 0) rfl (.inl rfl) rfl rfl)) (sndA_cons (snd_var (pe_var (i := 2) rfl (.inl rfl) rfl rfl)) (sndA_cons (snd_var (pe_var (i := 4) rfl (.inl rfl) rfl rfl)) sndA_nil rfl) rfl) rfl) rfl rfl rfl)) (sndG_name (pg_name (i := 6) nd rfl (.inl rfl) (.inl rfl))) rfl rfl rfl)
 (sndSs_cons (sndS_asg (noExc_name 7) (snd_var (pe_var (i := 5) rfl (.inl rfl) rfl rfl)) (sndG_name (pg_name (i := 7) nd rfl (.inl rfl) (.inl rfl))) rfl rfl rfl)
 (sndSs_cons (sndS_for (passes_of rfl) rfl (sndI_rng1 rfl (free_ok KX G (c.a.fact 3 (f := .free "range") rfl)) (snd_bin h_add o_add (snd_var (pe_var (i := 3) rfl (.inl rfl) rfl rfl)) (snd_const pe_int (fun _ => Rep.ofInt))) rfl) (sndG_name (pg_name (i := 8) nd rfl (.inl rfl) (.inl rfl))) (sndSs_cons (sndS_asg (noExc_name 9) (snd_bin op_sub o_sub (snd_bin op_sub o_sub (snd_var (pe_var (i := 3) rfl (.inl rfl) rfl rfl)) (snd_var (pe_var (i := 8) rfl (.inl rfl) rfl rfl))) (snd_const pe_int (fun _ => Rep.ofInt))) (sndG_name (pg_name (i := 9) nd rfl (.inl rfl) (.inl rfl))) rfl rfl rfl)
 (sndSs_cons (sndS_if (snd_cmpT (op_eqD hr.units) o_eq (by first | rfl | exact nomark _) (snd_ix ix_seq o_ix (fun _ _ => rfl) (snd_ix ix_seq o_ix (fun _ _ => rfl) (snd_var (pe_var (i := 0) rfl (.inl rfl) rfl rfl)) (snd_const pe_int (fun _ => Rep.ofInt))) (snd_var (pe_var (i := 4) rfl (.inl rfl) rfl rfl))) (snd_const pe_int (fun _ => Rep.ofInt))) (sndSs_cons (sndS_asg (noExc_name 9) (snd_bin op_sub o_sub (snd_var (pe_var (i := 3) rfl (.inl rfl) rfl rfl)) (snd_var (pe_var (i := 8) rfl (.inl rfl) rfl rfl))) (sndG_name (pg_name (i := 9) nd rfl (.inl rfl) (.inl rfl))) rfl rfl rfl)
 sndSs_nil) sndSs_nil)
 (sndSs_cons (sndS_asg (noExc_name 10) (snd_const pe_int (fun _ => Rep.ofInt)) (sndG_name (pg_name (i := 10) nd rfl (.inl rfl) (.inl rfl))) rfl rfl rfl)
 (sndSs_cons (sndS_if (SndW.t (snd_andT (snd_cmpT op_ge o_ge (by first | rfl | exact nomark _) (snd_var (pe_var (i := 9) rfl (.inl rfl) rfl rfl)) (snd_const pe_int (fun _ => Rep.ofInt))) (snd_andT1 (snd_cmpT (op_eqD hr.units) o_eq (by first | rfl | exact nomark _) (snd_var (pe_var (i := 9) rfl (.inl rfl) rfl rfl)) (snd_var (pe_var (i := 3) rfl (.inl rfl) rfl rfl)))))) (sndSs_cons (sndS_asg (noExc_name 10) (snd_rv (snd_call (io := false) ((ok__law_high (Pg := Pg) (w := w) (base := base) KX G c).mono (show 1 ≤ 1 by decide)) hr rfl (glo_ok KX G (c.a.fact 13 (f := .glo "_law_high") rfl)) (keep_ok (c.a.fact 14 (f := .keep "_law_high") rfl)) (sndA_cons (snd_var (pe_var (i := 0) rfl (.inl rfl) rfl rfl)) (sndA_cons (snd_var (pe_var (i := 2) rfl (.inl rfl) rfl rfl)) (sndA_cons (snd_var (pe_var (i := 4) rfl (.inl rfl) rfl rfl)) sndA_nil rfl) rfl) rfl) rfl rfl rfl)) (sndG_name (pg_name (i := 10) nd rfl (.inl rfl) (.inl rfl))) rfl rfl rfl)
 sndSs_nil) (sndSs_cons (sndS_if (snd_cmpT op_ge o_ge (by first | rfl | exact nomark _) (snd_var (pe_var (i := 9) rfl (.inl rfl) rfl rfl)) (snd_const pe_int (fun _ => Rep.ofInt))) (sndSs_cons (sndS_asg (noExc_name 10) (snd_rv (snd_call (io := false) ((ok__law_high (Pg := Pg) (w := w) (base := base) KX G c).mono (show 1 ≤ 1 by decide)) hr rfl (glo_ok KX G (c.a.fact 13 (f := .glo "_law_high") rfl)) (keep_ok (c.a.fact 14 (f := .keep "_law_high") rfl)) (sndA_cons (snd_var (pe_var (i := 0) rfl (.inl rfl) rfl rfl)) (sndA_cons (snd_ix ix_seq o_ix (fun _ _ => rfl) (snd_var (pe_var (i := 1) rfl (.inl rfl) rfl rfl)) (snd_var (pe_var (i := 9) rfl (.inl rfl) rfl rfl))) (sndA_cons (snd_var (pe_var (i := 4) rfl (.inl rfl) rfl rfl)) sndA_nil rfl) rfl) rfl) rfl rfl rfl)) (sndG_name (pg_name (i := 10) nd rfl (.inl rfl) (.inl rfl))) rfl rfl rfl)
 sndSs_nil) sndSs_nil)
 sndSs_nil))
 (sndSs_cons (sndS_asg (noExc_name 11) (snd_callB (h_max rfl) o_max rfl (free_ok KX G (c.a.fact 12 (f := .free "max") rfl)) rfl (sndA_cons (snd_bin h_add o_add (snd_var (pe_var (i := 8) rfl (.inl rfl) rfl rfl)) (snd_var (pe_var (i := 6) rfl (.inl rfl) rfl rfl))) (sndA_cons (snd_var (pe_var (i := 10) rfl (.inl rfl) rfl rfl)) sndA_nil rfl) rfl) (by decide) rfl rfl rfl) (sndG_name (pg_name (i := 11) nd rfl (.inl rfl) (.inl rfl))) rfl rfl rfl)
 (sndSs_cons (sndS_if (SndW.t (snd_andT (snd_cmpT (op_eqD hr.units) o_eq (by first | rfl | exact nomark _) (snd_ix ix_seq o_ix (fun _ _ => rfl) (snd_ix ix_seq o_ix (fun _ _ => rfl) (snd_var (pe_var (i := 0) rfl (.inl rfl) rfl rfl)) (snd_const pe_int (fun _ => Rep.ofInt))) (snd_var (pe_var (i := 4) rfl (.inl rfl) rfl rfl))) (snd_const pe_int (fun _ => Rep.ofInt))) (snd_andT1 (snd_cmpT (op_eqD hr.units) o_eq (by first | rfl | exact nomark _) (snd_var (pe_var (i := 8) rfl (.inl rfl) rfl rfl)) (snd_const pe_int (fun _ => Rep.ofInt)))))) (sndSs_cons (sndS_asg (noExc_name 11) (snd_var (pe_var (i := 10) rfl (.inl rfl) rfl rfl)) (sndG_name (pg_name (i := 11) nd rfl (.inl rfl) (.inl rfl))) rfl rfl rfl)
 sndSs_nil) sndSs_nil)
 (sndSs_cons (sndS_asg (noExc_name 7) (snd_callB (h_min rfl) o_min rfl (free_ok KX G (c.a.fact 2 (f := .free "min") rfl)) rfl (sndA_cons (snd_var (pe_var (i := 7) rfl (.inl rfl) rfl rfl)) (sndA_cons (snd_var (pe_var (i := 11) rfl (.inl rfl) rfl rfl)) sndA_nil rfl) rfl) (by decide) rfl rfl rfl) (sndG_name (pg_name (i := 7) nd rfl (.inl rfl) (.inl rfl))) rfl rfl rfl)
 sndSs_nil))))))) (fun _ => rfl))
 (sndSs_cons (sndS_ret (snd_var (pe_var (i := 7) rfl (.inl rfl) rfl rfl)))
 sndSs_nil))))
theorem ok__law_bank_cost (KX : K.In h) (G : h.Ns mainGlobals mg) (c : SaysV fa fn ex K) : FnR Pg w K mg base (L2.CX Pg w) 2 ((d__law_bank_cost).at_ K) (SpOf (cK K) g__law_bank_cost) := by
  obtain ⟨fd, F⟩ := c.a.def_ 4 (d := d__law_bank_cost) rfl
  exact fnR_all (fo__law_bank_cost KX G c F) (FunD.bindsN F fun _ _ _ _ _ _ us hl => match us, hl with | [_, _, _, _, _, _], _ => rfl)
theorem sc__law_bank_rows : FnScope ["_law_web", "_law_most_b", "_law_most", "_law_dues", "_law_due", "_law_rows", "_law_b", "_law_row", "_law_turn", "_law_after", "_law_stand"] ["_law_web", "_law_most_b"] (defScope st__law_bank_rows) := ⟨rfl, rfl, rfl, by decide +kernel, rfl, by decide +kernel, by decide +kernel⟩
theorem fo__law_bank_rows (KX : K.In h) (G : h.Ns mainGlobals mg) (c : SaysV fa fn ex K) {fd : FuncData} (F : FunD K "_law_bank_rows" "_law_bank_rows" (defArgs st__law_bank_rows) (defBody st__law_bank_rows) (defScope st__law_bank_rows) (d__law_bank_rows.dvs K) [] ((d__law_bank_rows).at_ K) fd) : FnOk Pg w K mg base (L2.CX Pg w) 3 ((d__law_bank_rows).at_ K) fd ["_law_web", "_law_most_b"] (SpOf (cK K) g__law_bank_rows) :=
  fn_def (N := ["_law_web", "_law_most_b", "_law_most", "_law_dues", "_law_due", "_law_rows", "_law_b", "_law_row", "_law_turn", "_law_after", "_law_stand"]) (mb := m__law_bank_rows) F sc__law_bank_rows fun cdv A outer s H E hr => by
  have nd : (["_law_web", "_law_most_b", "_law_most", "_law_dues", "_law_due", "_law_rows", "_law_b", "_law_row", "_law_turn", "_law_after", "_law_stand"] : List Str).Nodup := sc__law_bank_rows.nd
  exact (sndSs_cons (sndS_asg (noExc_name 2) (snd_bin op_pow o_pow (snd_const pe_int (fun _ => Rep.ofInt)) (snd_const pe_int (fun _ => Rep.ofInt))) (sndG_name (pg_name (i := 2) nd rfl (.inl rfl) (.inl rfl))) rfl rfl rfl)
 (sndSs_cons (sndS_own (sndF_lst sndA_nil) (pg_name (i := 3) nd rfl (.inl rfl) (.inl rfl)) rfl rfl rfl)
 (sndSs_cons (sndS_for (passes_of rfl) rfl (sndI_seq rfl (snd_ix ix_seq o_ix (fun _ _ => rfl) (snd_var (pe_var (i := 0) rfl (.inl rfl) rfl rfl)) (snd_const pe_int (fun _ => Rep.ofInt)))) (sndG_name (pg_name (i := 4) nd rfl (.inl rfl) (.inl rfl))) (sndSs_cons (sndS_if (SndW.t (snd_andT (snd_cmpT op_notN o_isNot (by first | rfl | exact nomark _) (snd_var (pe_var (i := 4) rfl (.inl rfl) rfl rfl)) (snd_const pe_non (fun _ => Rep.ofNon))) (snd_andT1 (snd_cmpT (op_eqD hr.units) o_eq (by first | rfl | exact nomark _) (snd_ix ix_seq o_ix (fun _ _ => rfl) (snd_var (pe_var (i := 4) rfl (.inl rfl) rfl rfl)) (snd_const pe_int (fun _ => Rep.ofInt))) (snd_const pe_str (fun _ => Rep.ofStr)))))) (sndSs_cons (sndS_expr (snd_methN o_append (fun h ha => pe_bm PySem.F.plainAttrs_list PySem.F.slot_list_append PySem.F.type_list_append mt_append h ha rfl rfl rfl rfl rfl) (pe_var (i := 3) rfl (.inl rfl) rfl rfl) (sndA_cons (snd_ix ix_seq o_ix (fun _ _ => rfl) (snd_var (pe_var (i := 4) rfl (.inl rfl) rfl rfl)) (snd_const pe_int (fun _ => Rep.ofInt))) sndA_nil rfl)) rfl)
 sndSs_nil) (sndSs_cons (sndS_expr (snd_methN o_append (fun h ha => pe_bm PySem.F.plainAttrs_list PySem.F.slot_list_append PySem.F.type_list_append mt_append h ha rfl rfl rfl rfl rfl) (pe_var (i := 3) rfl (.inl rfl) rfl rfl) (sndA_cons (snd_var (pe_var (i := 2) rfl (.inl rfl) rfl rfl)) sndA_nil rfl)) rfl)
 sndSs_nil))
 sndSs_nil) (fun _ => rfl))
 (sndSs_cons (sndS_own (sndF_lst sndA_nil) (pg_name (i := 5) nd rfl (.inl rfl) (.inl rfl)) rfl rfl rfl)
 (sndSs_cons (sndS_for (passes_of rfl) rfl (sndI_rng1 rfl (free_ok KX G (c.a.fact 3 (f := .free "range") rfl)) (snd_bin h_add o_add (snd_var (pe_var (i := 1) rfl (.inl rfl) rfl rfl)) (snd_const pe_int (fun _ => Rep.ofInt))) rfl) (sndG_name (pg_name (i := 6) nd rfl (.inl rfl) (.inl rfl))) (sndSs_cons (sndS_asg (noExc_name 7) (snd_frzF (sndF_callTy call_list_of o_list rfl (free_ok KX G (c.a.fact 9 (f := .free "list") rfl)) rfl (sndA_cons (snd_var (pe_var (i := 3) rfl (.inl rfl) rfl rfl)) sndA_nil rfl) (by decide) rfl rfl rfl)) (sndG_name (pg_name (i := 7) nd rfl (.inl rfl) (.inl rfl))) rfl rfl rfl)
 (sndSs_cons (sndS_for (passes_of rfl) rfl (sndI_rng1 rfl (free_ok KX G (c.a.fact 3 (f := .free "range") rfl)) (snd_bin h_mul o_mul (snd_callB call_len o_len rfl (free_ok KX G (c.a.fact 1 (f := .free "len") rfl)) rfl (sndA_cons (snd_var (pe_var (i := 7) rfl (.inl rfl) rfl rfl)) sndA_nil rfl) (by decide) rfl rfl rfl) (snd_bin h_add o_add (snd_bin h_mul o_mul (snd_callB call_len o_len rfl (free_ok KX G (c.a.fact 1 (f := .free "len") rfl)) rfl (sndA_cons (snd_var (pe_var (i := 7) rfl (.inl rfl) rfl rfl)) sndA_nil rfl) (by decide) rfl rfl rfl) (snd_bin h_add o_add (snd_var (pe_var (i := 6) rfl (.inl rfl) rfl rfl)) (snd_const pe_int (fun _ => Rep.ofInt)))) (snd_const pe_int (fun _ => Rep.ofInt)))) rfl) (sndG_name (pg_name (i := 8) nd rfl (.inl rfl) (.inl rfl))) (sndSs_cons (sndS_own (sndF_callTy call_list_of o_list rfl (free_ok KX G (c.a.fact 9 (f := .free "list") rfl)) rfl (sndA_cons (snd_var (pe_var (i := 3) rfl (.inl rfl) rfl rfl)) sndA_nil rfl) (by decide) rfl rfl rfl) (pg_name (i := 9) nd rfl (.inl rfl) (.inl rfl)) rfl rfl rfl)
 (sndSs_cons (sndS_for (passes_of rfl) rfl (sndI_rng1 rfl (free_ok KX G (c.a.fact 3 (f := .free "range") rfl)) (snd_callB call_len o_len rfl (free_ok KX G (c.a.fact 1 (f := .free "len") rfl)) rfl (sndA_cons (snd_var (pe_var (i := 7) rfl (.inl rfl) rfl rfl)) sndA_nil rfl) (by decide) rfl rfl rfl) rfl) (sndG_name (pg_name (i := 10) nd rfl (.inl rfl) (.inl rfl))) (sndSs_cons (sndS_if (snd_cmpT op_gt o_gt (by first | rfl | exact nomark _) (snd_callB call_len o_len rfl (free_ok KX G (c.a.fact 1 (f := .free "len") rfl)) rfl (sndA_cons (snd_ix ix_seq o_ix (fun _ _ => rfl) (snd_ix ix_seq o_ix (fun _ _ => rfl) (snd_var (pe_var (i := 0) rfl (.inl rfl) rfl rfl)) (snd_const pe_int (fun _ => Rep.ofInt))) (snd_var (pe_var (i := 10) rfl (.inl rfl) rfl rfl))) sndA_nil rfl) (by decide) rfl rfl rfl) (snd_const pe_int (fun _ => Rep.ofInt))) (sndSs_cons (sndS_setI (tpos := ⟨0, 0, 0, 0⟩) (snd_callB (h_min rfl) o_min rfl (free_ok KX G (c.a.fact 2 (f := .free "min") rfl)) rfl (sndA_cons (snd_ix ix_seq o_ix (fun _ _ => rfl) (snd_var (pe_var (i := 3) rfl (.inl rfl) rfl rfl)) (snd_var (pe_var (i := 10) rfl (.inl rfl) rfl rfl))) (sndA_cons (snd_rv (snd_call (io := false) ((ok__law_bank_cost (Pg := Pg) (w := w) (base := base) KX G c).mono (show 2 ≤ 2 by decide)) hr rfl (glo_ok KX G (c.a.fact 15 (f := .glo "_law_bank_cost") rfl)) (keep_ok (c.a.fact 16 (f := .keep "_law_bank_cost") rfl)) (sndA_cons (snd_var (pe_var (i := 0) rfl (.inl rfl) rfl rfl)) (sndA_cons (snd_var (pe_var (i := 5) rfl (.inl rfl) rfl rfl)) (sndA_cons (snd_var (pe_var (i := 7) rfl (.inl rfl) rfl rfl)) (sndA_cons (snd_var (pe_var (i := 6) rfl (.inl rfl) rfl rfl)) (sndA_cons (snd_var (pe_var (i := 10) rfl (.inl rfl) rfl rfl)) (sndA_cons (snd_var (pe_var (i := 2) rfl (.inl rfl) rfl rfl)) sndA_nil rfl) rfl) rfl) rfl) rfl) rfl) rfl rfl rfl)) sndA_nil rfl) rfl) (by decide) rfl rfl rfl) (pe_var (i := 9) rfl (.inl rfl) rfl rfl) (snd_var (pe_var (i := 10) rfl (.inl rfl) rfl rfl)) (fun ho hi => pg_sub ho hi set_list (fun _ => rfl)) rfl rfl rfl)
 sndSs_nil) sndSs_nil)
 sndSs_nil) (fun _ => rfl))
 (sndSs_cons (sndS_if (snd_cmpT (op_eqD hr.units) o_eq (by first | rfl | exact nomark _) (snd_var (pe_var (i := 9) rfl (.inl rfl) rfl rfl)) (snd_var (pe_var (i := 7) rfl (.inl rfl) rfl rfl))) (sndSs_cons sndS_break
 sndSs_nil) sndSs_nil)
 (sndSs_cons (sndS_asg (noExc_name 7) (snd_var (pe_var (i := 9) rfl (.inl rfl) rfl rfl)) (sndG_name (pg_name (i := 7) nd rfl (.inl rfl) (.inl rfl))) rfl rfl rfl)
 sndSs_nil)))) (fun _ => rfl))
 (sndSs_cons (sndS_expr (snd_methN o_append (fun h ha => pe_bm PySem.F.plainAttrs_list PySem.F.slot_list_append PySem.F.type_list_append mt_append h ha rfl rfl rfl rfl rfl) (pe_var (i := 5) rfl (.inl rfl) rfl rfl) (sndA_cons (snd_var (pe_var (i := 7) rfl (.inl rfl) rfl rfl)) sndA_nil rfl)) rfl)
 sndSs_nil))) (fun _ => rfl))
 (sndSs_cons (sndS_ret (snd_var (pe_var (i := 5) rfl (.inl rfl) rfl rfl)))
 sndSs_nil))))))
theorem ok__law_bank_rows (KX : K.In h) (G : h.Ns mainGlobals mg) (c : SaysV fa fn ex K) : FnR Pg w K mg base (L2.CX Pg w) 3 ((d__law_bank_rows).at_ K) (SpOf (cK K) g__law_bank_rows) := by
  obtain ⟨fd, F⟩ := c.a.def_ 5 (d := d__law_bank_rows) rfl
  exact fnR_all (fo__law_bank_rows KX G c F) (FunD.bindsN F fun _ _ _ _ _ _ us hl => match us, hl with | [_, _], _ => rfl)
theorem sc_need_web : FnScope ["web"] ["web"] (defScope st_need_web) := ⟨rfl, rfl, rfl, by decide +kernel, rfl, by decide +kernel, by decide +kernel⟩
theorem fo_need_web (KX : K.In h) (G : h.Ns mainGlobals mg) (c : SaysV fa fn ex K) {fd : FuncData} (F : FunD K "need_web" "need_web" (defArgs st_need_web) (defBody st_need_web) (defScope st_need_web) (d_need_web.dvs K) [] ((d_need_web).at_ K) fd) : FnOk Pg w K mg base (L2.CX Pg w) 1 ((d_need_web).at_ K) fd ["web"] (SpOf (cK K) g_need_web) :=
  fn_def (N := ["web"]) (mb := m_need_web) F sc_need_web fun cdv A outer s H E hr => by
  have nd : (["web"] : List Str).Nodup := sc_need_web.nd
  exact (sndSs_cons (sndS_if (snd_notT (snd_truth rfl (fun _ => rfl) (snd_isC (c := 10) (kisB_ok (c.at_ 0 (f := (fun K => kisB (cK K) 10 [10])) rfl)) rfl rfl (free_ok KX G (c.a.fact 19 (f := .free "isinstance") rfl)) rfl (glo_ok KX G (c.a.fact 20 (f := .glo "Web") rfl)) rfl (snd_var (pe_var (i := 0) rfl (.inl rfl) rfl rfl)) rfl rfl rfl))) (sndSs_cons (sndS_raise1 (k := 1) PySem.F.excBase_Exception (excB_ok rfl (c.at_ 1 (f := (fun K => excB (cK K).K ((cK K).cls 1))) rfl)) (glo_ok KX G (c.a.fact 21 (f := .glo "WrongKind") rfl)) rfl rfl (snd_const pe_str (fun _ => Rep.ofStr)) rfl rfl rfl)
 sndSs_nil) sndSs_nil)
 sndSs_nil)
theorem ok_need_web (KX : K.In h) (G : h.Ns mainGlobals mg) (c : SaysV fa fn ex K) : FnR Pg w K mg base (L2.CX Pg w) 1 ((d_need_web).at_ K) (SpOf (cK K) g_need_web) := by
  obtain ⟨fd, F⟩ := c.a.def_ 6 (d := d_need_web) rfl
  exact fnR_all (fo_need_web KX G c F) (FunD.bindsN F fun _ _ _ _ _ _ us hl => match us, hl with | [_], _ => rfl)
theorem sc_is_integer : FnScope ["thing"] ["thing"] (defScope st_is_integer) := ⟨rfl, rfl, rfl, by decide +kernel, rfl, by decide +kernel, by decide +kernel⟩
theorem fo_is_integer (KX : K.In h) (G : h.Ns mainGlobals mg) (c : SaysV fa fn ex K) {fd : FuncData} (F : FunD K "is_integer" "is_integer" (defArgs st_is_integer) (defBody st_is_integer) (defScope st_is_integer) (d_is_integer.dvs K) [] ((d_is_integer).at_ K) fd) : FnOk Pg w K mg base (L2.CX Pg w) 1 ((d_is_integer).at_ K) fd ["thing"] (SpOf (cK K) g_is_integer) :=
  fn_def (N := ["thing"]) (mb := m_is_integer) F sc_is_integer fun cdv A outer s H E hr => by
  have nd : (["thing"] : List Str).Nodup := sc_is_integer.nd
  exact (sndSs_cons (sndS_ret (snd_andV (snd_isT (n := 0) (by decide) rfl (by decide) rfl rfl (free_ok KX G (c.a.fact 19 (f := .free "isinstance") rfl)) rfl (free_ok KX G (c.a.fact 4 (f := .free "int") rfl)) rfl (snd_var (pe_var (i := 0) rfl (.inl rfl) rfl rfl)) rfl rfl rfl) (snd_one (snd_notV (snd_isT (n := 1) (by decide) rfl (by decide) rfl rfl (free_ok KX G (c.a.fact 19 (f := .free "isinstance") rfl)) rfl (free_ok KX G (c.a.fact 24 (f := .free "bool") rfl)) rfl (snd_var (pe_var (i := 0) rfl (.inl rfl) rfl rfl)) rfl rfl rfl)))))
 sndSs_nil)
theorem ok_is_integer (KX : K.In h) (G : h.Ns mainGlobals mg) (c : SaysV fa fn ex K) : FnR Pg w K mg base (L2.CX Pg w) 1 ((d_is_integer).at_ K) (SpOf (cK K) g_is_integer) := by
  obtain ⟨fd, F⟩ := c.a.def_ 7 (d := d_is_integer) rfl
  exact fnR_all (fo_is_integer KX G c F) (FunD.bindsN F fun _ _ _ _ _ _ us hl => match us, hl with | [_], _ => rfl)
theorem sc_need_integer : FnScope ["thing", "what"] ["thing", "what"] (defScope st_need_integer) := ⟨rfl, rfl, rfl, by decide +kernel, rfl, by decide +kernel, by decide +kernel⟩
theorem fo_need_integer (KX : K.In h) (G : h.Ns mainGlobals mg) (c : SaysV fa fn ex K) {fd : FuncData} (F : FunD K "need_integer" "need_integer" (defArgs st_need_integer) (defBody st_need_integer) (defScope st_need_integer) (d_need_integer.dvs K) [] ((d_need_integer).at_ K) fd) : FnOk Pg w K mg base (L2.CX Pg w) 2 ((d_need_integer).at_ K) fd ["thing", "what"] (SpOf (cK K) g_need_integer) :=
  fn_def (N := ["thing", "what"]) (mb := m_need_integer) F sc_need_integer fun cdv A outer s H E hr => by
  have nd : (["thing", "what"] : List Str).Nodup := sc_need_integer.nd
  exact (sndSs_cons (sndS_if (snd_notT (snd_truth rfl (fun _ => rfl) (snd_rv (snd_call (io := false) ((ok_is_integer (Pg := Pg) (w := w) (base := base) KX G c).mono (show 1 ≤ 1 by decide)) hr rfl (glo_ok KX G (c.a.fact 25 (f := .glo "is_integer") rfl)) (keep_ok (c.a.fact 26 (f := .keep "is_integer") rfl)) (sndA_cons (snd_var (pe_var (i := 0) rfl (.inl rfl) rfl rfl)) sndA_nil rfl) rfl rfl rfl)))) (sndSs_cons (sndS_raise1 (k := 1) PySem.F.excBase_Exception (excB_ok rfl (c.at_ 1 (f := (fun K => excB (cK K).K ((cK K).cls 1))) rfl)) (glo_ok KX G (c.a.fact 21 (f := .glo "WrongKind") rfl)) rfl rfl (snd_joined (sndJ_cons (snd_fmt (snd_var (pe_var (i := 1) rfl (.inl rfl) rfl rfl))) (sndJ_cons (snd_const pe_str (fun _ => Rep.ofStr)) sndJ_nil))) rfl rfl rfl)
 sndSs_nil) sndSs_nil)
 sndSs_nil)
theorem ok_need_integer (KX : K.In h) (G : h.Ns mainGlobals mg) (c : SaysV fa fn ex K) : FnR Pg w K mg base (L2.CX Pg w) 2 ((d_need_integer).at_ K) (SpOf (cK K) g_need_integer) := by
  obtain ⟨fd, F⟩ := c.a.def_ 8 (d := d_need_integer) rfl
  exact fnR_all (fo_need_integer KX G c F) (FunD.bindsN F fun _ _ _ _ _ _ us hl => match us, hl with | [_, _], _ => rfl)
theorem sc_need_from : FnScope ["number", "least", "what"] ["number", "least", "what"] (defScope st_need_from) := ⟨rfl, rfl, rfl, by decide +kernel, rfl, by decide +kernel, by decide +kernel⟩
theorem fo_need_from (KX : K.In h) (G : h.Ns mainGlobals mg) (c : SaysV fa fn ex K) {fd : FuncData} (F : FunD K "need_from" "need_from" (defArgs st_need_from) (defBody st_need_from) (defScope st_need_from) (d_need_from.dvs K) [] ((d_need_from).at_ K) fd) : FnOk Pg w K mg base (L2.CX Pg w) 1 ((d_need_from).at_ K) fd ["number", "least", "what"] (SpOf (cK K) g_need_from) :=
  fn_def (N := ["number", "least", "what"]) (mb := m_need_from) F sc_need_from fun cdv A outer s H E hr => by
  have nd : (["number", "least", "what"] : List Str).Nodup := sc_need_from.nd
  exact (sndSs_cons (sndS_if (snd_cmpT op_lt o_lt (by first | rfl | exact nomark _) (snd_var (pe_var (i := 0) rfl (.inl rfl) rfl rfl)) (snd_var (pe_var (i := 1) rfl (.inl rfl) rfl rfl))) (sndSs_cons (sndS_raise1 (k := 2) PySem.F.excBase_Exception (excB_ok rfl (c.at_ 2 (f := (fun K => excB (cK K).K ((cK K).cls 2))) rfl)) (glo_ok KX G (c.a.fact 29 (f := .glo "WrongNumber") rfl)) rfl rfl (snd_joined (sndJ_cons (snd_fmt (snd_var (pe_var (i := 2) rfl (.inl rfl) rfl rfl))) (sndJ_cons (snd_const pe_str (fun _ => Rep.ofStr)) (sndJ_cons (snd_fmt (snd_var (pe_var (i := 1) rfl (.inl rfl) rfl rfl))) sndJ_nil)))) rfl rfl rfl)
 sndSs_nil) sndSs_nil)
 sndSs_nil)
theorem ok_need_from (KX : K.In h) (G : h.Ns mainGlobals mg) (c : SaysV fa fn ex K) : FnR Pg w K mg base (L2.CX Pg w) 1 ((d_need_from).at_ K) (SpOf (cK K) g_need_from) := by
  obtain ⟨fd, F⟩ := c.a.def_ 9 (d := d_need_from) rfl
  exact fnR_all (fo_need_from KX G c F) (FunD.bindsN F fun _ _ _ _ _ _ us hl => match us, hl with | [_, _, _], _ => rfl)
theorem sc_need_up_to : FnScope ["number", "most", "what"] ["number", "most", "what"] (defScope st_need_up_to) := ⟨rfl, rfl, rfl, by decide +kernel, rfl, by decide +kernel, by decide +kernel⟩
theorem fo_need_up_to (KX : K.In h) (G : h.Ns mainGlobals mg) (c : SaysV fa fn ex K) {fd : FuncData} (F : FunD K "need_up_to" "need_up_to" (defArgs st_need_up_to) (defBody st_need_up_to) (defScope st_need_up_to) (d_need_up_to.dvs K) [] ((d_need_up_to).at_ K) fd) : FnOk Pg w K mg base (L2.CX Pg w) 1 ((d_need_up_to).at_ K) fd ["number", "most", "what"] (SpOf (cK K) g_need_up_to) :=
  fn_def (N := ["number", "most", "what"]) (mb := m_need_up_to) F sc_need_up_to fun cdv A outer s H E hr => by
  have nd : (["number", "most", "what"] : List Str).Nodup := sc_need_up_to.nd
  exact (sndSs_cons (sndS_if (snd_cmpT op_gt o_gt (by first | rfl | exact nomark _) (snd_var (pe_var (i := 0) rfl (.inl rfl) rfl rfl)) (snd_var (pe_var (i := 1) rfl (.inl rfl) rfl rfl))) (sndSs_cons (sndS_raise1 (k := 6) PySem.F.excBase_Exception (excB_ok rfl (c.at_ 3 (f := (fun K => excB (cK K).K ((cK K).cls 6))) rfl)) (glo_ok KX G (c.a.fact 32 (f := .glo "TooMuch") rfl)) rfl rfl (snd_joined (sndJ_cons (snd_fmt (snd_var (pe_var (i := 2) rfl (.inl rfl) rfl rfl))) (sndJ_cons (snd_const pe_str (fun _ => Rep.ofStr)) (sndJ_cons (snd_fmt (snd_var (pe_var (i := 1) rfl (.inl rfl) rfl rfl))) sndJ_nil)))) rfl rfl rfl)
 sndSs_nil) sndSs_nil)
 sndSs_nil)
theorem ok_need_up_to (KX : K.In h) (G : h.Ns mainGlobals mg) (c : SaysV fa fn ex K) : FnR Pg w K mg base (L2.CX Pg w) 1 ((d_need_up_to).at_ K) (SpOf (cK K) g_need_up_to) := by
  obtain ⟨fd, F⟩ := c.a.def_ 10 (d := d_need_up_to) rfl
  exact fnR_all (fo_need_up_to KX G c F) (FunD.bindsN F fun _ _ _ _ _ _ us hl => match us, hl with | [_, _, _], _ => rfl)
theorem sc_Web__greatest_due : FnScope ["self"] ["self"] (defScope st_Web__greatest_due) := ⟨rfl, rfl, rfl, by decide +kernel, rfl, by decide +kernel, by decide +kernel⟩
theorem fo_Web__greatest_due (KX : K.In h) (G : h.Ns mainGlobals mg) (c : SaysV fa fn ex K) {fd : FuncData} (F : FunD K "greatest_due" "Web.greatest_due" (defArgs st_Web__greatest_due) (defBody st_Web__greatest_due) (defScope st_Web__greatest_due) (d_Web__greatest_due.dvs K) [] ((d_Web__greatest_due).at_ K) fd) : FnOk Pg w K mg base (L2.CX Pg w) 1 ((d_Web__greatest_due).at_ K) fd ["self"] (SpOf (cK K) g_Web__greatest_due) :=
  fn_def (N := ["self"]) (mb := m_Web__greatest_due) F sc_Web__greatest_due fun cdv A outer s H E hr => by
  have nd : (["self"] : List Str).Nodup := sc_Web__greatest_due.nd
  exact (sndSs_cons (sndS_ret (snd_fld (sclsB_ok (c.at_ 4 (f := (fun K => sclsB K (ga K "Web"))) rfl)) (slot1B_ok (c.at_ 7 (f := (fun K => slot1B K (ga K "Web") "_greatest_due" 3)) rfl)) (snd_var (pe_var (i := 0) rfl (.inl rfl) rfl rfl)) rfl))
 sndSs_nil)
theorem ok_Web__greatest_due (KX : K.In h) (G : h.Ns mainGlobals mg) (c : SaysV fa fn ex K) : FnR Pg w K mg base (L2.CX Pg w) 1 ((d_Web__greatest_due).at_ K) (SpOf (cK K) g_Web__greatest_due) := by
  obtain ⟨fd, F⟩ := c.a.def_ 11 (d := d_Web__greatest_due) rfl
  exact fnR_all (fo_Web__greatest_due KX G c F) (FunD.bindsN F fun _ _ _ _ _ _ us hl => match us, hl with | [_], _ => rfl)
theorem sc_Web__dues : FnScope ["self"] ["self"] (defScope st_Web__dues) := ⟨rfl, rfl, rfl, by decide +kernel, rfl, by decide +kernel, by decide +kernel⟩
theorem fo_Web__dues (KX : K.In h) (G : h.Ns mainGlobals mg) (c : SaysV fa fn ex K) {fd : FuncData} (F : FunD K "dues" "Web.dues" (defArgs st_Web__dues) (defBody st_Web__dues) (defScope st_Web__dues) (d_Web__dues.dvs K) [] ((d_Web__dues).at_ K) fd) : FnOk Pg w K mg base (L2.CX Pg w) 1 ((d_Web__dues).at_ K) fd ["self"] (SpOf (cK K) g_Web__dues) :=
  fn_def (N := ["self"]) (mb := m_Web__dues) F sc_Web__dues fun cdv A outer s H E hr => by
  have nd : (["self"] : List Str).Nodup := sc_Web__dues.nd
  exact (sndSs_cons (sndS_ret (snd_fld (sclsB_ok (c.at_ 4 (f := (fun K => sclsB K (ga K "Web"))) rfl)) (slot1B_ok (c.at_ 5 (f := (fun K => slot1B K (ga K "Web") "_dues" 0)) rfl)) (snd_var (pe_var (i := 0) rfl (.inl rfl) rfl rfl)) rfl))
 sndSs_nil)
theorem ok_Web__dues (KX : K.In h) (G : h.Ns mainGlobals mg) (c : SaysV fa fn ex K) : FnR Pg w K mg base (L2.CX Pg w) 1 ((d_Web__dues).at_ K) (SpOf (cK K) g_Web__dues) := by
  obtain ⟨fd, F⟩ := c.a.def_ 12 (d := d_Web__dues) rfl
  exact fnR_all (fo_Web__dues KX G c F) (FunD.bindsN F fun _ _ _ _ _ _ us hl => match us, hl with | [_], _ => rfl)
theorem sc_bank_owed : FnScope ["due"] ["due"] (defScope st_bank_owed) := ⟨rfl, rfl, rfl, by decide +kernel, rfl, by decide +kernel, by decide +kernel⟩
theorem fo_bank_owed (KX : K.In h) (G : h.Ns mainGlobals mg) (c : SaysV fa fn ex K) {fd : FuncData} (F : FunD K "bank_owed" "bank_owed" (defArgs st_bank_owed) (defBody st_bank_owed) (defScope st_bank_owed) (d_bank_owed.dvs K) [] ((d_bank_owed).at_ K) fd) : FnOk Pg w K mg base (L2.CX Pg w) 1 ((d_bank_owed).at_ K) fd ["due"] (SpOf (cK K) g_bank_owed) :=
  fn_def (N := ["due"]) (mb := m_bank_owed) F sc_bank_owed fun cdv A outer s H E hr => by
  have nd : (["due"] : List Str).Nodup := sc_bank_owed.nd
  exact (sndSs_cons (sndS_if (SndW.t (snd_orT (snd_cmpT op_isN o_is (by first | rfl | exact nomark _) (snd_var (pe_var (i := 0) rfl (.inl rfl) rfl rfl)) (snd_const pe_non (fun _ => Rep.ofNon))) (snd_orT1 (snd_cmpT (op_neD hr.units) o_ne (by first | rfl | exact nomark _) (snd_ix ix_seq o_ix (fun _ _ => rfl) (snd_var (pe_var (i := 0) rfl (.inl rfl) rfl rfl)) (snd_const pe_int (fun _ => Rep.ofInt))) (snd_const pe_str (fun _ => Rep.ofStr)))))) (sndSs_cons (sndS_ret (snd_const pe_non (fun _ => Rep.ofNon)))
 sndSs_nil) sndSs_nil)
 (sndSs_cons (sndS_ret (snd_ix ix_seq o_ix (fun _ _ => rfl) (snd_var (pe_var (i := 0) rfl (.inl rfl) rfl rfl)) (snd_const pe_int (fun _ => Rep.ofInt))))
 sndSs_nil))
theorem ok_bank_owed (KX : K.In h) (G : h.Ns mainGlobals mg) (c : SaysV fa fn ex K) : FnR Pg w K mg base (L2.CX Pg w) 1 ((d_bank_owed).at_ K) (SpOf (cK K) g_bank_owed) := by
  obtain ⟨fd, F⟩ := c.a.def_ 13 (d := d_bank_owed) rfl
  exact fnR_all (fo_bank_owed KX G c F) (FunD.bindsN F fun _ _ _ _ _ _ us hl => match us, hl with | [_], _ => rfl)
theorem sc_Web__size : FnScope ["self"] ["self"] (defScope st_Web__size) := ⟨rfl, rfl, rfl, by decide +kernel, rfl, by decide +kernel, by decide +kernel⟩
theorem fo_Web__size (KX : K.In h) (G : h.Ns mainGlobals mg) (c : SaysV fa fn ex K) {fd : FuncData} (F : FunD K "size" "Web.size" (defArgs st_Web__size) (defBody st_Web__size) (defScope st_Web__size) (d_Web__size.dvs K) [] ((d_Web__size).at_ K) fd) : FnOk Pg w K mg base (L2.CX Pg w) 1 ((d_Web__size).at_ K) fd ["self"] (SpOf (cK K) g_Web__size) :=
  fn_def (N := ["self"]) (mb := m_Web__size) F sc_Web__size fun cdv A outer s H E hr => by
  have nd : (["self"] : List Str).Nodup := sc_Web__size.nd
  exact (sndSs_cons (sndS_ret (snd_callB call_len o_len rfl (free_ok KX G (c.a.fact 1 (f := .free "len") rfl)) rfl (sndA_cons (snd_fld (sclsB_ok (c.at_ 4 (f := (fun K => sclsB K (ga K "Web"))) rfl)) (slot1B_ok (c.at_ 10 (f := (fun K => slot1B K (ga K "Web") "_marks" 4)) rfl)) (snd_var (pe_var (i := 0) rfl (.inl rfl) rfl rfl)) rfl) sndA_nil rfl) (by decide) rfl rfl rfl))
 sndSs_nil)
theorem ok_Web__size (KX : K.In h) (G : h.Ns mainGlobals mg) (c : SaysV fa fn ex K) : FnR Pg w K mg base (L2.CX Pg w) 1 ((d_Web__size).at_ K) (SpOf (cK K) g_Web__size) := by
  obtain ⟨fd, F⟩ := c.a.def_ 14 (d := d_Web__size) rfl
  exact fnR_all (fo_Web__size KX G c F) (FunD.bindsN F fun _ _ _ _ _ _ us hl => match us, hl with | [_], _ => rfl)
theorem sc_bank_lesser : FnScope ["x", "y"] ["x", "y"] (defScope st_bank_lesser) := ⟨rfl, rfl, rfl, by decide +kernel, rfl, by decide +kernel, by decide +kernel⟩
theorem fo_bank_lesser (KX : K.In h) (G : h.Ns mainGlobals mg) (c : SaysV fa fn ex K) {fd : FuncData} (F : FunD K "bank_lesser" "bank_lesser" (defArgs st_bank_lesser) (defBody st_bank_lesser) (defScope st_bank_lesser) (d_bank_lesser.dvs K) [] ((d_bank_lesser).at_ K) fd) : FnOk Pg w K mg base (L2.CX Pg w) 1 ((d_bank_lesser).at_ K) fd ["x", "y"] (SpOf (cK K) g_bank_lesser) :=
  fn_def (N := ["x", "y"]) (mb := m_bank_lesser) F sc_bank_lesser fun cdv A outer s H E hr => by
  have nd : (["x", "y"] : List Str).Nodup := sc_bank_lesser.nd
  exact (sndSs_cons (sndS_if (snd_cmpT op_isN o_is (by first | rfl | exact nomark _) (snd_var (pe_var (i := 0) rfl (.inl rfl) rfl rfl)) (snd_const pe_non (fun _ => Rep.ofNon))) (sndSs_cons (sndS_ret (snd_var (pe_var (i := 1) rfl (.inl rfl) rfl rfl)))
 sndSs_nil) sndSs_nil)
 (sndSs_cons (sndS_ret (snd_if (snd_cmpT op_isN o_is (by first | rfl | exact nomark _) (snd_var (pe_var (i := 1) rfl (.inl rfl) rfl rfl)) (snd_const pe_non (fun _ => Rep.ofNon))) (snd_var (pe_var (i := 0) rfl (.inl rfl) rfl rfl)) (snd_callB (h_min rfl) o_min rfl (free_ok KX G (c.a.fact 2 (f := .free "min") rfl)) rfl (sndA_cons (snd_var (pe_var (i := 0) rfl (.inl rfl) rfl rfl)) (sndA_cons (snd_var (pe_var (i := 1) rfl (.inl rfl) rfl rfl)) sndA_nil rfl) rfl) (by decide) rfl rfl rfl)))
 sndSs_nil))
theorem ok_bank_lesser (KX : K.In h) (G : h.Ns mainGlobals mg) (c : SaysV fa fn ex K) : FnR Pg w K mg base (L2.CX Pg w) 1 ((d_bank_lesser).at_ K) (SpOf (cK K) g_bank_lesser) := by
  obtain ⟨fd, F⟩ := c.a.def_ 15 (d := d_bank_lesser) rfl
  exact fnR_all (fo_bank_lesser KX G c F) (FunD.bindsN F fun _ _ _ _ _ _ us hl => match us, hl with | [_, _], _ => rfl)
theorem sc_Web__first : FnScope ["self"] ["self"] (defScope st_Web__first) := ⟨rfl, rfl, rfl, by decide +kernel, rfl, by decide +kernel, by decide +kernel⟩
theorem fo_Web__first (KX : K.In h) (G : h.Ns mainGlobals mg) (c : SaysV fa fn ex K) {fd : FuncData} (F : FunD K "first" "Web.first" (defArgs st_Web__first) (defBody st_Web__first) (defScope st_Web__first) (d_Web__first.dvs K) [] ((d_Web__first).at_ K) fd) : FnOk Pg w K mg base (L2.CX Pg w) 1 ((d_Web__first).at_ K) fd ["self"] (SpOf (cK K) g_Web__first) :=
  fn_def (N := ["self"]) (mb := m_Web__first) F sc_Web__first fun cdv A outer s H E hr => by
  have nd : (["self"] : List Str).Nodup := sc_Web__first.nd
  exact (sndSs_cons (sndS_ret (snd_fld (sclsB_ok (c.at_ 4 (f := (fun K => sclsB K (ga K "Web"))) rfl)) (slot1B_ok (c.at_ 12 (f := (fun K => slot1B K (ga K "Web") "_first" 2)) rfl)) (snd_var (pe_var (i := 0) rfl (.inl rfl) rfl rfl)) rfl))
 sndSs_nil)
theorem ok_Web__first (KX : K.In h) (G : h.Ns mainGlobals mg) (c : SaysV fa fn ex K) : FnR Pg w K mg base (L2.CX Pg w) 1 ((d_Web__first).at_ K) (SpOf (cK K) g_Web__first) := by
  obtain ⟨fd, F⟩ := c.a.def_ 16 (d := d_Web__first) rfl
  exact fnR_all (fo_Web__first KX G c F) (FunD.bindsN F fun _ _ _ _ _ _ us hl => match us, hl with | [_], _ => rfl)
theorem sc_bank_low : FnScope ["web", "row", "stand", "least", "w"] ["web", "row", "stand"] (defScope st_bank_low) := ⟨rfl, rfl, rfl, by decide +kernel, rfl, by decide +kernel, by decide +kernel⟩
theorem fo_bank_low (KX : K.In h) (G : h.Ns mainGlobals mg) (c : SaysV fa fn ex K) {fd : FuncData} (F : FunD K "bank_low" "bank_low" (defArgs st_bank_low) (defBody st_bank_low) (defScope st_bank_low) (d_bank_low.dvs K) [] ((d_bank_low).at_ K) fd) : FnOk Pg w K mg base (L2.CX Pg w) 3 ((d_bank_low).at_ K) fd ["web", "row", "stand"] (SpOf (cK K) g_bank_low) :=
  fn_def (N := ["web", "row", "stand", "least", "w"]) (mb := m_bank_low) F sc_bank_low fun cdv A outer s H E hr => by
  have nd : (["web", "row", "stand", "least", "w"] : List Str).Nodup := sc_bank_low.nd
  exact (sndSs_cons (sndS_asg (noExc_name 3) (snd_const pe_non (fun _ => Rep.ofNon)) (sndG_name (pg_name (i := 3) nd rfl (.inl rfl) (.inl rfl))) rfl rfl rfl)
 (sndSs_cons (sndS_for (passes_of rfl) rfl (sndI_seq rfl (snd_ix ix_seq o_ix (fun _ _ => rfl) (let z := (propB_ok (c.at_ 11 (f := (fun K => propB K (ga K "Web") "first")) rfl)); snd_prop (sclsB_ok (c.at_ 4 (f := (fun K => sclsB K (ga K "Web"))) rfl)) z.at_ z.get z.tk z.rc ((ok_Web__first (Pg := Pg) (w := w) (base := base) KX G c).mono (show 1 ≤ 1 by decide)) hr (snd_var (pe_var (i := 0) rfl (.inl rfl) rfl rfl)) rfl) (snd_var (pe_var (i := 2) rfl (.inl rfl) rfl rfl)))) (sndG_name (pg_name (i := 4) nd rfl (.inl rfl) (.inl rfl))) (sndSs_cons (sndS_asg (noExc_name 3) (snd_rv (snd_call (io := false) ((ok_bank_lesser (Pg := Pg) (w := w) (base := base) KX G c).mono (show 1 ≤ 2 by decide)) hr rfl (glo_ok KX G (c.a.fact 40 (f := .glo "bank_lesser") rfl)) (keep_ok (c.a.fact 41 (f := .keep "bank_lesser") rfl)) (sndA_cons (snd_var (pe_var (i := 3) rfl (.inl rfl) rfl rfl)) (sndA_cons (snd_ix ix_seq o_ix (fun _ _ => rfl) (snd_var (pe_var (i := 1) rfl (.inl rfl) rfl rfl)) (snd_var (pe_var (i := 4) rfl (.inl rfl) rfl rfl))) sndA_nil rfl) rfl) rfl rfl rfl)) (sndG_name (pg_name (i := 3) nd rfl (.inl rfl) (.inl rfl))) rfl rfl rfl)
 sndSs_nil) (fun _ => rfl))
 (sndSs_cons (sndS_ret (snd_var (pe_var (i := 3) rfl (.inl rfl) rfl rfl)))
 sndSs_nil)))
theorem ok_bank_low (KX : K.In h) (G : h.Ns mainGlobals mg) (c : SaysV fa fn ex K) : FnR Pg w K mg base (L2.CX Pg w) 3 ((d_bank_low).at_ K) (SpOf (cK K) g_bank_low) := by
  obtain ⟨fd, F⟩ := c.a.def_ 17 (d := d_bank_low) rfl
  exact fnR_all (fo_bank_low KX G c F) (FunD.bindsN F fun _ _ _ _ _ _ us hl => match us, hl with | [_, _, _], _ => rfl)
theorem sc_Web__second : FnScope ["self"] ["self"] (defScope st_Web__second) := ⟨rfl, rfl, rfl, by decide +kernel, rfl, by decide +kernel, by decide +kernel⟩
theorem fo_Web__second (KX : K.In h) (G : h.Ns mainGlobals mg) (c : SaysV fa fn ex K) {fd : FuncData} (F : FunD K "second" "Web.second" (defArgs st_Web__second) (defBody st_Web__second) (defScope st_Web__second) (d_Web__second.dvs K) [] ((d_Web__second).at_ K) fd) : FnOk Pg w K mg base (L2.CX Pg w) 1 ((d_Web__second).at_ K) fd ["self"] (SpOf (cK K) g_Web__second) :=
  fn_def (N := ["self"]) (mb := m_Web__second) F sc_Web__second fun cdv A outer s H E hr => by
  have nd : (["self"] : List Str).Nodup := sc_Web__second.nd
  exact (sndSs_cons (sndS_ret (snd_fld (sclsB_ok (c.at_ 4 (f := (fun K => sclsB K (ga K "Web"))) rfl)) (slot1B_ok (c.at_ 14 (f := (fun K => slot1B K (ga K "Web") "_second" 6)) rfl)) (snd_var (pe_var (i := 0) rfl (.inl rfl) rfl rfl)) rfl))
 sndSs_nil)
theorem ok_Web__second (KX : K.In h) (G : h.Ns mainGlobals mg) (c : SaysV fa fn ex K) : FnR Pg w K mg base (L2.CX Pg w) 1 ((d_Web__second).at_ K) (SpOf (cK K) g_Web__second) := by
  obtain ⟨fd, F⟩ := c.a.def_ 18 (d := d_Web__second) rfl
  exact fnR_all (fo_Web__second KX G c F) (FunD.bindsN F fun _ _ _ _ _ _ us hl => match us, hl with | [_], _ => rfl)
theorem sc_bank_greater : FnScope ["x", "y"] ["x", "y"] (defScope st_bank_greater) := ⟨rfl, rfl, rfl, by decide +kernel, rfl, by decide +kernel, by decide +kernel⟩
theorem fo_bank_greater (KX : K.In h) (G : h.Ns mainGlobals mg) (c : SaysV fa fn ex K) {fd : FuncData} (F : FunD K "bank_greater" "bank_greater" (defArgs st_bank_greater) (defBody st_bank_greater) (defScope st_bank_greater) (d_bank_greater.dvs K) [] ((d_bank_greater).at_ K) fd) : FnOk Pg w K mg base (L2.CX Pg w) 1 ((d_bank_greater).at_ K) fd ["x", "y"] (SpOf (cK K) g_bank_greater) :=
  fn_def (N := ["x", "y"]) (mb := m_bank_greater) F sc_bank_greater fun cdv A outer s H E hr => by
  have nd : (["x", "y"] : List Str).Nodup := sc_bank_greater.nd
  exact (sndSs_cons (sndS_if (SndW.t (snd_orT (snd_cmpT op_isN o_is (by first | rfl | exact nomark _) (snd_var (pe_var (i := 0) rfl (.inl rfl) rfl rfl)) (snd_const pe_non (fun _ => Rep.ofNon))) (snd_orT1 (snd_cmpT op_isN o_is (by first | rfl | exact nomark _) (snd_var (pe_var (i := 1) rfl (.inl rfl) rfl rfl)) (snd_const pe_non (fun _ => Rep.ofNon)))))) (sndSs_cons (sndS_ret (snd_const pe_non (fun _ => Rep.ofNon)))
 sndSs_nil) sndSs_nil)
 (sndSs_cons (sndS_ret (snd_callB (h_max rfl) o_max rfl (free_ok KX G (c.a.fact 12 (f := .free "max") rfl)) rfl (sndA_cons (snd_var (pe_var (i := 0) rfl (.inl rfl) rfl rfl)) (sndA_cons (snd_var (pe_var (i := 1) rfl (.inl rfl) rfl rfl)) sndA_nil rfl) rfl) (by decide) rfl rfl rfl))
 sndSs_nil))
theorem ok_bank_greater (KX : K.In h) (G : h.Ns mainGlobals mg) (c : SaysV fa fn ex K) : FnR Pg w K mg base (L2.CX Pg w) 1 ((d_bank_greater).at_ K) (SpOf (cK K) g_bank_greater) := by
  obtain ⟨fd, F⟩ := c.a.def_ 19 (d := d_bank_greater) rfl
  exact fnR_all (fo_bank_greater KX G c F) (FunD.bindsN F fun _ _ _ _ _ _ us hl => match us, hl with | [_, _], _ => rfl)
theorem sc_bank_high : FnScope ["web", "row", "stand", "greatest", "w"] ["web", "row", "stand"] (defScope st_bank_high) := ⟨rfl, rfl, rfl, by decide +kernel, rfl, by decide +kernel, by decide +kernel⟩
theorem fo_bank_high (KX : K.In h) (G : h.Ns mainGlobals mg) (c : SaysV fa fn ex K) {fd : FuncData} (F : FunD K "bank_high" "bank_high" (defArgs st_bank_high) (defBody st_bank_high) (defScope st_bank_high) (d_bank_high.dvs K) [] ((d_bank_high).at_ K) fd) : FnOk Pg w K mg base (L2.CX Pg w) 3 ((d_bank_high).at_ K) fd ["web", "row", "stand"] (SpOf (cK K) g_bank_high) :=
  fn_def (N := ["web", "row", "stand", "greatest", "w"]) (mb := m_bank_high) F sc_bank_high fun cdv A outer s H E hr => by
  have nd : (["web", "row", "stand", "greatest", "w"] : List Str).Nodup := sc_bank_high.nd
  exact (sndSs_cons (sndS_asg (noExc_name 3) (snd_const pe_int (fun _ => Rep.ofInt)) (sndG_name (pg_name (i := 3) nd rfl (.inl rfl) (.inl rfl))) rfl rfl rfl)
 (sndSs_cons (sndS_for (passes_of rfl) rfl (sndI_seq rfl (snd_ix ix_seq o_ix (fun _ _ => rfl) (let z := (propB_ok (c.at_ 13 (f := (fun K => propB K (ga K "Web") "second")) rfl)); snd_prop (sclsB_ok (c.at_ 4 (f := (fun K => sclsB K (ga K "Web"))) rfl)) z.at_ z.get z.tk z.rc ((ok_Web__second (Pg := Pg) (w := w) (base := base) KX G c).mono (show 1 ≤ 1 by decide)) hr (snd_var (pe_var (i := 0) rfl (.inl rfl) rfl rfl)) rfl) (snd_var (pe_var (i := 2) rfl (.inl rfl) rfl rfl)))) (sndG_name (pg_name (i := 4) nd rfl (.inl rfl) (.inl rfl))) (sndSs_cons (sndS_asg (noExc_name 3) (snd_rv (snd_call (io := false) ((ok_bank_greater (Pg := Pg) (w := w) (base := base) KX G c).mono (show 1 ≤ 2 by decide)) hr rfl (glo_ok KX G (c.a.fact 44 (f := .glo "bank_greater") rfl)) (keep_ok (c.a.fact 45 (f := .keep "bank_greater") rfl)) (sndA_cons (snd_var (pe_var (i := 3) rfl (.inl rfl) rfl rfl)) (sndA_cons (snd_ix ix_seq o_ix (fun _ _ => rfl) (snd_var (pe_var (i := 1) rfl (.inl rfl) rfl rfl)) (snd_var (pe_var (i := 4) rfl (.inl rfl) rfl rfl))) sndA_nil rfl) rfl) rfl rfl rfl)) (sndG_name (pg_name (i := 3) nd rfl (.inl rfl) (.inl rfl))) rfl rfl rfl)
 sndSs_nil) (fun _ => rfl))
 (sndSs_cons (sndS_ret (snd_var (pe_var (i := 3) rfl (.inl rfl) rfl rfl)))
 sndSs_nil)))
theorem ok_bank_high (KX : K.In h) (G : h.Ns mainGlobals mg) (c : SaysV fa fn ex K) : FnR Pg w K mg base (L2.CX Pg w) 3 ((d_bank_high).at_ K) (SpOf (cK K) g_bank_high) := by
  obtain ⟨fd, F⟩ := c.a.def_ 20 (d := d_bank_high) rfl
  exact fnR_all (fo_bank_high KX G c F) (FunD.bindsN F fun _ _ _ _ _ _ us hl => match us, hl with | [_, _, _], _ => rfl)
theorem sc_Web__marks : FnScope ["self"] ["self"] (defScope st_Web__marks) := ⟨rfl, rfl, rfl, by decide +kernel, rfl, by decide +kernel, by decide +kernel⟩
theorem fo_Web__marks (KX : K.In h) (G : h.Ns mainGlobals mg) (c : SaysV fa fn ex K) {fd : FuncData} (F : FunD K "marks" "Web.marks" (defArgs st_Web__marks) (defBody st_Web__marks) (defScope st_Web__marks) (d_Web__marks.dvs K) [] ((d_Web__marks).at_ K) fd) : FnOk Pg w K mg base (L2.CX Pg w) 1 ((d_Web__marks).at_ K) fd ["self"] (SpOf (cK K) g_Web__marks) :=
  fn_def (N := ["self"]) (mb := m_Web__marks) F sc_Web__marks fun cdv A outer s H E hr => by
  have nd : (["self"] : List Str).Nodup := sc_Web__marks.nd
  exact (sndSs_cons (sndS_ret (snd_fld (sclsB_ok (c.at_ 4 (f := (fun K => sclsB K (ga K "Web"))) rfl)) (slot1B_ok (c.at_ 10 (f := (fun K => slot1B K (ga K "Web") "_marks" 4)) rfl)) (snd_var (pe_var (i := 0) rfl (.inl rfl) rfl rfl)) rfl))
 sndSs_nil)
theorem ok_Web__marks (KX : K.In h) (G : h.Ns mainGlobals mg) (c : SaysV fa fn ex K) : FnR Pg w K mg base (L2.CX Pg w) 1 ((d_Web__marks).at_ K) (SpOf (cK K) g_Web__marks) := by
  obtain ⟨fd, F⟩ := c.a.def_ 21 (d := d_Web__marks) rfl
  exact fnR_all (fo_Web__marks KX G c F) (FunD.bindsN F fun _ _ _ _ _ _ us hl => match us, hl with | [_], _ => rfl)
theorem sc_bank_ways : FnScope ["web", "rows", "row", "b", "stand", "low", "highs", "paid", "more", "one_row", "x"] ["web", "rows", "row", "b", "stand"] (defScope st_bank_ways) := ⟨rfl, rfl, rfl, by decide +kernel, rfl, by decide +kernel, by decide +kernel⟩
theorem fo_bank_ways (KX : K.In h) (G : h.Ns mainGlobals mg) (c : SaysV fa fn ex K) {fd : FuncData} (F : FunD K "bank_ways" "bank_ways" (defArgs st_bank_ways) (defBody st_bank_ways) (defScope st_bank_ways) (d_bank_ways.dvs K) [] ((d_bank_ways).at_ K) fd) : FnOk Pg w K mg base (L2.CX Pg w) 4 ((d_bank_ways).at_ K) fd ["web", "rows", "row", "b", "stand"] (SpOf (cK K) g_bank_ways) :=
  fn_def (N := ["web", "rows", "row", "b", "stand", "low", "highs", "paid", "more", "one_row", "x"]) (mb := m_bank_ways) F sc_bank_ways fun cdv A outer s H E hr => by
  have nd : (["web", "rows", "row", "b", "stand", "low", "highs", "paid", "more", "one_row", "x"] : List Str).Nodup := sc_bank_ways.nd
  exact (sndSs_cons (sndS_asg (noExc_name 5) (snd_rv (snd_call (io := false) ((ok_bank_low (Pg := Pg) (w := w) (base := base) KX G c).mono (show 3 ≤ 3 by decide)) hr rfl (glo_ok KX G (c.a.fact 42 (f := .glo "bank_low") rfl)) (keep_ok (c.a.fact 43 (f := .keep "bank_low") rfl)) (sndA_cons (snd_var (pe_var (i := 0) rfl (.inr (.inl rfl)) rfl rfl)) (sndA_cons (snd_var (pe_var (i := 2) rfl (.inl rfl) rfl rfl)) (sndA_cons (snd_var (pe_var (i := 4) rfl (.inr (.inl rfl)) rfl rfl)) sndA_nil rfl) rfl) rfl) rfl rfl rfl)) (sndG_name (pg_name (i := 5) nd rfl (.inr rfl) (.inl rfl))) rfl rfl rfl)
 (sndSs_cons (sndS_asg (noExc_name 6) (snd_frzF (sndF_bin op_cat o_cat (snd_frzF (sndF_comp (own := [("one_row", 9)]) rfl nd (sndI_seq rfl (snd_frzF (sndF_sl rfl (snd_var (pe_var (i := 1) rfl (.inl rfl) rfl rfl)) sndO_none (sndO_some (snd_var (pe_var (i := 3) rfl (.inr (.inl rfl)) rfl rfl)))))) (blkB_ok (N := ["web", "rows", "row", "b", "stand", "low", "highs", "paid", "more", "one_row", "x"]) (sc := defScope st_bank_ways) rfl (by decide +kernel)) (fun _ _ _ _ _ => (sndG_name (pg_name (i := 9) nd rfl (.inl rfl) (.inr rfl)))) (fun _ _ _ _ _ => sndTs_nil) (fun _ _ _ _ _ => (snd_rv (snd_call (io := false) ((ok_bank_high (Pg := Pg) (w := w) (base := base) KX G c).mono (show 3 ≤ 3 by decide)) hr rfl (glo_ok KX G (c.a.fact 46 (f := .glo "bank_high") rfl)) (keep_ok (c.a.fact 47 (f := .keep "bank_high") rfl)) (sndA_cons (snd_var (pe_var (i := 0) rfl (.inr (.inl rfl)) rfl rfl)) (sndA_cons (snd_var (pe_var (i := 9) rfl (.inl rfl) rfl rfl)) (sndA_cons (snd_var (pe_var (i := 4) rfl (.inr (.inl rfl)) rfl rfl)) sndA_nil rfl) rfl) rfl) rfl rfl rfl))) (fun _ => rfl))) (snd_frzF (sndF_lst (sndA_cons (snd_rv (snd_call (io := false) ((ok_bank_high (Pg := Pg) (w := w) (base := base) KX G c).mono (show 3 ≤ 3 by decide)) hr rfl (glo_ok KX G (c.a.fact 46 (f := .glo "bank_high") rfl)) (keep_ok (c.a.fact 47 (f := .keep "bank_high") rfl)) (sndA_cons (snd_var (pe_var (i := 0) rfl (.inr (.inl rfl)) rfl rfl)) (sndA_cons (snd_var (pe_var (i := 2) rfl (.inl rfl) rfl rfl)) (sndA_cons (snd_var (pe_var (i := 4) rfl (.inr (.inl rfl)) rfl rfl)) sndA_nil rfl) rfl) rfl) rfl rfl rfl)) sndA_nil rfl))))) (sndG_name (pg_name (i := 6) nd rfl (.inr rfl) (.inl rfl))) rfl rfl rfl)
 (sndSs_cons (sndS_asg (noExc_name 7) (snd_frzF (sndF_comp (own := [("x", 10)]) rfl nd (sndI_rng1 rfl (free_ok KX G (c.a.fact 3 (f := .free "range") rfl)) (snd_bin h_add o_add (snd_var (pe_var (i := 3) rfl (.inr (.inl rfl)) rfl rfl)) (snd_const pe_int (fun _ => Rep.ofInt))) rfl) (blkB_ok (N := ["web", "rows", "row", "b", "stand", "low", "highs", "paid", "more", "one_row", "x"]) (sc := defScope st_bank_ways) rfl (by decide +kernel)) (fun _ _ _ _ _ => (sndG_name (pg_name (i := 10) nd rfl (.inl rfl) (.inr rfl)))) (fun _ _ _ _ _ => sndTs_nil) (fun _ _ _ _ _ => (snd_if (snd_cmpT op_isN o_is (by first | rfl | exact nomark _) (snd_var (pe_var (i := 5) rfl (.inr (.inl rfl)) rfl rfl)) (snd_const pe_non (fun _ => Rep.ofNon))) (snd_const pe_non (fun _ => Rep.ofNon)) (snd_bin h_add o_add (snd_var (pe_var (i := 10) rfl (.inl rfl) rfl rfl)) (snd_var (pe_var (i := 5) rfl (.inr (.inl rfl)) rfl rfl))))) (fun _ => rfl))) (sndG_name (pg_name (i := 7) nd rfl (.inr rfl) (.inl rfl))) rfl rfl rfl)
 (sndSs_cons (sndS_if (snd_cmpT (op_eqD hr.units) o_eq (by first | rfl | exact nomark _) (snd_ix ix_seq o_ix (fun _ _ => rfl) (let z := (propB_ok (c.at_ 15 (f := (fun K => propB K (ga K "Web") "marks")) rfl)); snd_prop (sclsB_ok (c.at_ 4 (f := (fun K => sclsB K (ga K "Web"))) rfl)) z.at_ z.get z.tk z.rc ((ok_Web__marks (Pg := Pg) (w := w) (base := base) KX G c).mono (show 1 ≤ 2 by decide)) hr (snd_var (pe_var (i := 0) rfl (.inr (.inl rfl)) rfl rfl)) rfl) (snd_var (pe_var (i := 4) rfl (.inr (.inl rfl)) rfl rfl))) (snd_const pe_int (fun _ => Rep.ofInt))) (sndSs_cons (sndS_retF (sndF_comp (own := [("x", 10)]) rfl nd (sndI_rng1 rfl (free_ok KX G (c.a.fact 3 (f := .free "range") rfl)) (snd_bin h_add o_add (snd_var (pe_var (i := 3) rfl (.inr (.inl rfl)) rfl rfl)) (snd_const pe_int (fun _ => Rep.ofInt))) rfl) (blkB_ok (N := ["web", "rows", "row", "b", "stand", "low", "highs", "paid", "more", "one_row", "x"]) (sc := defScope st_bank_ways) rfl (by decide +kernel)) (fun _ _ _ _ _ => (sndG_name (pg_name (i := 10) nd rfl (.inl rfl) (.inr rfl)))) (fun _ _ _ _ _ => sndTs_nil) (fun _ _ _ _ _ => (snd_rv (snd_call (io := false) ((ok_bank_greater (Pg := Pg) (w := w) (base := base) KX G c).mono (show 1 ≤ 3 by decide)) hr rfl (glo_ok KX G (c.a.fact 44 (f := .glo "bank_greater") rfl)) (keep_ok (c.a.fact 45 (f := .keep "bank_greater") rfl)) (sndA_cons (snd_ix ix_seq o_ix (fun _ _ => rfl) (snd_var (pe_var (i := 7) rfl (.inr (.inl rfl)) rfl rfl)) (snd_var (pe_var (i := 10) rfl (.inl rfl) rfl rfl))) (sndA_cons (snd_if (snd_cmpT op_lt o_lt (by first | rfl | exact nomark _) (snd_var (pe_var (i := 10) rfl (.inl rfl) rfl rfl)) (snd_var (pe_var (i := 3) rfl (.inr (.inl rfl)) rfl rfl))) (snd_ix ix_seq o_ix (fun _ _ => rfl) (snd_var (pe_var (i := 6) rfl (.inr (.inl rfl)) rfl rfl)) (snd_bin op_sub o_sub (snd_bin op_sub o_sub (snd_var (pe_var (i := 3) rfl (.inr (.inl rfl)) rfl rfl)) (snd_var (pe_var (i := 10) rfl (.inl rfl) rfl rfl))) (snd_const pe_int (fun _ => Rep.ofInt)))) (snd_const pe_int (fun _ => Rep.ofInt))) sndA_nil rfl) rfl) rfl rfl rfl))) (fun _ => rfl)))
 sndSs_nil) sndSs_nil)
 (sndSs_cons (sndS_setLc (k := mOwnD) (own := [("x", 10)]) (i := 8) (fun _ _ _ _ _ _ h => ownD_reading h) rfl nd rfl rfl rfl (sndI_rng2 rfl (free_ok KX G (c.a.fact 3 (f := .free "range") rfl)) (snd_const pe_int (fun _ => Rep.ofInt)) (snd_bin h_add o_add (snd_var (pe_var (i := 3) rfl (.inr (.inl rfl)) rfl rfl)) (snd_const pe_int (fun _ => Rep.ofInt))) rfl rfl rfl) (blkB_ok (N := ["web", "rows", "row", "b", "stand", "low", "highs", "paid", "more", "one_row", "x"]) (sc := defScope st_bank_ways) rfl (by decide +kernel)) (fun _ _ _ _ _ => (sndG_name (pg_name (i := 10) nd rfl (.inl rfl) (.inr rfl)))) (fun _ _ _ _ _ => sndTs_nil) (fun _ _ _ _ _ => (snd_rv (snd_call (io := false) ((ok_bank_greater (Pg := Pg) (w := w) (base := base) KX G c).mono (show 1 ≤ 3 by decide)) hr rfl (glo_ok KX G (c.a.fact 44 (f := .glo "bank_greater") rfl)) (keep_ok (c.a.fact 45 (f := .keep "bank_greater") rfl)) (sndA_cons (snd_ix ix_seq o_ix (fun _ _ => rfl) (snd_var (pe_var (i := 7) rfl (.inr (.inl rfl)) rfl rfl)) (snd_var (pe_var (i := 10) rfl (.inl rfl) rfl rfl))) (sndA_cons (snd_if (snd_cmpT op_le o_le (by first | rfl | exact nomark _) (snd_var (pe_var (i := 10) rfl (.inl rfl) rfl rfl)) (snd_var (pe_var (i := 3) rfl (.inr (.inl rfl)) rfl rfl))) (snd_ix ix_seq o_ix (fun _ _ => rfl) (snd_var (pe_var (i := 6) rfl (.inr (.inl rfl)) rfl rfl)) (snd_bin op_sub o_sub (snd_var (pe_var (i := 3) rfl (.inr (.inl rfl)) rfl rfl)) (snd_var (pe_var (i := 10) rfl (.inl rfl) rfl rfl)))) (snd_const pe_int (fun _ => Rep.ofInt))) sndA_nil rfl) rfl) rfl rfl rfl))) (fun _ => rfl))
 (sndSs_cons (sndS_retF (sndF_bin op_cat o_cat (snd_frzF (sndF_lst (sndA_cons (snd_ix ix_seq o_ix (fun _ _ => rfl) (snd_var (pe_var (i := 6) rfl (.inr (.inl rfl)) rfl rfl)) (snd_var (pe_var (i := 3) rfl (.inr (.inl rfl)) rfl rfl))) sndA_nil rfl))) (snd_var (pe_var (i := 8) rfl (.inl rfl) rfl rfl))))
 sndSs_nil))))))
theorem ok_bank_ways (KX : K.In h) (G : h.Ns mainGlobals mg) (c : SaysV fa fn ex K) : FnR Pg w K mg base (L2.CX Pg w) 4 ((d_bank_ways).at_ K) (SpOf (cK K) g_bank_ways) := by
  obtain ⟨fd, F⟩ := c.a.def_ 22 (d := d_bank_ways) rfl
  exact fnR_all (fo_bank_ways KX G c F) (FunD.bindsN F fun _ _ _ _ _ _ us hl => match us, hl with | [_, _, _, _, _], _ => rfl)
theorem sc_bank_price_at : FnScope ["web", "rows", "row", "b", "stand", "least", "asked"] ["web", "rows", "row", "b", "stand"] (defScope st_bank_price_at) := ⟨rfl, rfl, rfl, by decide +kernel, rfl, by decide +kernel, by decide +kernel⟩
theorem fo_bank_price_at (KX : K.In h) (G : h.Ns mainGlobals mg) (c : SaysV fa fn ex K) {fd : FuncData} (F : FunD K "bank_price_at" "bank_price_at" (defArgs st_bank_price_at) (defBody st_bank_price_at) (defScope st_bank_price_at) (d_bank_price_at.dvs K) [] ((d_bank_price_at).at_ K) fd) : FnOk Pg w K mg base (L2.CX Pg w) 5 ((d_bank_price_at).at_ K) fd ["web", "rows", "row", "b", "stand"] (SpOf (cK K) g_bank_price_at) :=
  fn_def (N := ["web", "rows", "row", "b", "stand", "least", "asked"]) (mb := m_bank_price_at) F sc_bank_price_at fun cdv A outer s H E hr => by
  have nd : (["web", "rows", "row", "b", "stand", "least", "asked"] : List Str).Nodup := sc_bank_price_at.nd
  exact (sndSs_cons (sndS_if (snd_notT (snd_truth rfl (fun _ => rfl) (snd_ix ix_seq o_ix (fun _ _ => rfl) (let z := (propB_ok (c.at_ 11 (f := (fun K => propB K (ga K "Web") "first")) rfl)); snd_prop (sclsB_ok (c.at_ 4 (f := (fun K => sclsB K (ga K "Web"))) rfl)) z.at_ z.get z.tk z.rc ((ok_Web__first (Pg := Pg) (w := w) (base := base) KX G c).mono (show 1 ≤ 3 by decide)) hr (snd_var (pe_var (i := 0) rfl (.inl rfl) rfl rfl)) rfl) (snd_var (pe_var (i := 4) rfl (.inl rfl) rfl rfl))))) (sndSs_cons (sndS_ret (snd_const pe_non (fun _ => Rep.ofNon)))
 sndSs_nil) sndSs_nil)
 (sndSs_cons (sndS_asg (noExc_name 5) (snd_const pe_non (fun _ => Rep.ofNon)) (sndG_name (pg_name (i := 5) nd rfl (.inl rfl) (.inl rfl))) rfl rfl rfl)
 (sndSs_cons (sndS_for (passes_of rfl) rfl (sndI_seq rfl (snd_rv (snd_call (io := false) ((ok_bank_ways (Pg := Pg) (w := w) (base := base) KX G c).mono (show 4 ≤ 4 by decide)) hr rfl (glo_ok KX G (c.a.fact 48 (f := .glo "bank_ways") rfl)) (keep_ok (c.a.fact 49 (f := .keep "bank_ways") rfl)) (sndA_cons (snd_var (pe_var (i := 0) rfl (.inl rfl) rfl rfl)) (sndA_cons (snd_var (pe_var (i := 1) rfl (.inl rfl) rfl rfl)) (sndA_cons (snd_var (pe_var (i := 2) rfl (.inl rfl) rfl rfl)) (sndA_cons (snd_var (pe_var (i := 3) rfl (.inl rfl) rfl rfl)) (sndA_cons (snd_var (pe_var (i := 4) rfl (.inl rfl) rfl rfl)) sndA_nil rfl) rfl) rfl) rfl) rfl) rfl rfl rfl))) (sndG_name (pg_name (i := 6) nd rfl (.inl rfl) (.inl rfl))) (sndSs_cons (sndS_asg (noExc_name 5) (snd_rv (snd_call (io := false) ((ok_bank_lesser (Pg := Pg) (w := w) (base := base) KX G c).mono (show 1 ≤ 4 by decide)) hr rfl (glo_ok KX G (c.a.fact 40 (f := .glo "bank_lesser") rfl)) (keep_ok (c.a.fact 41 (f := .keep "bank_lesser") rfl)) (sndA_cons (snd_var (pe_var (i := 5) rfl (.inl rfl) rfl rfl)) (sndA_cons (snd_var (pe_var (i := 6) rfl (.inl rfl) rfl rfl)) sndA_nil rfl) rfl) rfl rfl rfl)) (sndG_name (pg_name (i := 5) nd rfl (.inl rfl) (.inl rfl))) rfl rfl rfl)
 sndSs_nil) (fun _ => rfl))
 (sndSs_cons (sndS_ret (snd_var (pe_var (i := 5) rfl (.inl rfl) rfl rfl)))
 sndSs_nil))))
theorem ok_bank_price_at (KX : K.In h) (G : h.Ns mainGlobals mg) (c : SaysV fa fn ex K) : FnR Pg w K mg base (L2.CX Pg w) 5 ((d_bank_price_at).at_ K) (SpOf (cK K) g_bank_price_at) := by
  obtain ⟨fd, F⟩ := c.a.def_ 23 (d := d_bank_price_at) rfl
  exact fnR_all (fo_bank_price_at KX G c F) (FunD.bindsN F fun _ _ _ _ _ _ us hl => match us, hl with | [_, _, _, _, _], _ => rfl)
theorem sc_bank_next : FnScope ["web", "rows", "row", "v"] ["web", "rows", "row"] (defScope st_bank_next) := ⟨rfl, rfl, rfl, by decide +kernel, rfl, by decide +kernel, by decide +kernel⟩
theorem fo_bank_next (KX : K.In h) (G : h.Ns mainGlobals mg) (c : SaysV fa fn ex K) {fd : FuncData} (F : FunD K "bank_next" "bank_next" (defArgs st_bank_next) (defBody st_bank_next) (defScope st_bank_next) (d_bank_next.dvs K) [] ((d_bank_next).at_ K) fd) : FnOk Pg w K mg base (L2.CX Pg w) 6 ((d_bank_next).at_ K) fd ["web", "rows", "row"] (SpOf (cK K) g_bank_next) :=
  fn_def (N := ["web", "rows", "row", "v"]) (mb := m_bank_next) F sc_bank_next fun cdv A outer s H E hr => by
  have nd : (["web", "rows", "row", "v"] : List Str).Nodup := sc_bank_next.nd
  exact (sndSs_cons (sndS_ret (snd_callTy call_tuple_of o_tuple rfl (free_ok KX G (c.a.fact 39 (f := .free "tuple") rfl)) rfl (sndA_cons (snd_frzF (sndF_comp (own := [("v", 3)]) rfl nd (sndI_rng1 rfl (free_ok KX G (c.a.fact 3 (f := .free "range") rfl)) (let z := (propB_ok (c.at_ 9 (f := (fun K => propB K (ga K "Web") "size")) rfl)); snd_prop (sclsB_ok (c.at_ 4 (f := (fun K => sclsB K (ga K "Web"))) rfl)) z.at_ z.get z.tk z.rc ((ok_Web__size (Pg := Pg) (w := w) (base := base) KX G c).mono (show 1 ≤ 4 by decide)) hr (snd_var (pe_var (i := 0) rfl (.inr (.inl rfl)) rfl rfl)) rfl) rfl) (blkB_ok (N := ["web", "rows", "row", "v"]) (sc := defScope st_bank_next) rfl (by decide +kernel)) (fun _ _ _ _ _ => (sndG_name (pg_name (i := 3) nd rfl (.inl rfl) (.inr rfl)))) (fun _ _ _ _ _ => sndTs_nil) (fun _ _ _ _ _ => (snd_rv (snd_call (io := false) ((ok_bank_lesser (Pg := Pg) (w := w) (base := base) KX G c).mono (show 1 ≤ 5 by decide)) hr rfl (glo_ok KX G (c.a.fact 40 (f := .glo "bank_lesser") rfl)) (keep_ok (c.a.fact 41 (f := .keep "bank_lesser") rfl)) (sndA_cons (snd_rv (snd_call (io := false) ((ok_bank_owed (Pg := Pg) (w := w) (base := base) KX G c).mono (show 1 ≤ 5 by decide)) hr rfl (glo_ok KX G (c.a.fact 37 (f := .glo "bank_owed") rfl)) (keep_ok (c.a.fact 38 (f := .keep "bank_owed") rfl)) (sndA_cons (snd_ix ix_seq o_ix (fun _ _ => rfl) (let z := (propB_ok (c.at_ 8 (f := (fun K => propB K (ga K "Web") "dues")) rfl)); snd_prop (sclsB_ok (c.at_ 4 (f := (fun K => sclsB K (ga K "Web"))) rfl)) z.at_ z.get z.tk z.rc ((ok_Web__dues (Pg := Pg) (w := w) (base := base) KX G c).mono (show 1 ≤ 4 by decide)) hr (snd_var (pe_var (i := 0) rfl (.inr (.inl rfl)) rfl rfl)) rfl) (snd_var (pe_var (i := 3) rfl (.inl rfl) rfl rfl))) sndA_nil rfl) rfl rfl rfl)) (sndA_cons (snd_rv (snd_call (io := false) ((ok_bank_price_at (Pg := Pg) (w := w) (base := base) KX G c).mono (show 5 ≤ 5 by decide)) hr rfl (glo_ok KX G (c.a.fact 50 (f := .glo "bank_price_at") rfl)) (keep_ok (c.a.fact 51 (f := .keep "bank_price_at") rfl)) (sndA_cons (snd_var (pe_var (i := 0) rfl (.inr (.inl rfl)) rfl rfl)) (sndA_cons (snd_var (pe_var (i := 1) rfl (.inr (.inl rfl)) rfl rfl)) (sndA_cons (snd_var (pe_var (i := 2) rfl (.inr (.inl rfl)) rfl rfl)) (sndA_cons (snd_callB call_len o_len rfl (free_ok KX G (c.a.fact 1 (f := .free "len") rfl)) rfl (sndA_cons (snd_var (pe_var (i := 1) rfl (.inr (.inl rfl)) rfl rfl)) sndA_nil rfl) (by decide) rfl rfl rfl) (sndA_cons (snd_var (pe_var (i := 3) rfl (.inl rfl) rfl rfl)) sndA_nil rfl) rfl) rfl) rfl) rfl) rfl rfl rfl)) sndA_nil rfl) rfl) rfl rfl rfl))) (fun _ => rfl))) sndA_nil rfl) (by decide) rfl rfl rfl))
 sndSs_nil)
theorem ok_bank_next (KX : K.In h) (G : h.Ns mainGlobals mg) (c : SaysV fa fn ex K) : FnR Pg w K mg base (L2.CX Pg w) 6 ((d_bank_next).at_ K) (SpOf (cK K) g_bank_next) := by
  obtain ⟨fd, F⟩ := c.a.def_ 24 (d := d_bank_next) rfl
  exact fnR_all (fo_bank_next KX G c F) (FunD.bindsN F fun _ _ _ _ _ _ us hl => match us, hl with | [_, _, _], _ => rfl)
theorem sc_bank_last : FnScope ["web", "rows", "row", "following", "due"] ["web", "rows"] (defScope st_bank_last) := ⟨rfl, rfl, rfl, by decide +kernel, rfl, by decide +kernel, by decide +kernel⟩
theorem fo_bank_last (KX : K.In h) (G : h.Ns mainGlobals mg) (c : SaysV fa fn ex K) {fd : FuncData} (F : FunD K "bank_last" "bank_last" (defArgs st_bank_last) (defBody st_bank_last) (defScope st_bank_last) (d_bank_last.dvs K) [] ((d_bank_last).at_ K) fd) : FnOk Pg w K mg base (L2.CX Pg w) 7 ((d_bank_last).at_ K) fd ["web", "rows"] (SpOf (cK K) g_bank_last) :=
  fn_def (N := ["web", "rows", "row", "following", "due"]) (mb := m_bank_last) F sc_bank_last fun cdv A outer s H E hr => by
  have nd : (["web", "rows", "row", "following", "due"] : List Str).Nodup := sc_bank_last.nd
  exact (sndSs_cons (sndS_asg (noExc_name 2) (snd_callTy call_tuple_of o_tuple rfl (free_ok KX G (c.a.fact 39 (f := .free "tuple") rfl)) rfl (sndA_cons (snd_frzF (sndF_comp (own := [("due", 4)]) rfl nd (sndI_seq rfl (let z := (propB_ok (c.at_ 8 (f := (fun K => propB K (ga K "Web") "dues")) rfl)); snd_prop (sclsB_ok (c.at_ 4 (f := (fun K => sclsB K (ga K "Web"))) rfl)) z.at_ z.get z.tk z.rc ((ok_Web__dues (Pg := Pg) (w := w) (base := base) KX G c).mono (show 1 ≤ 5 by decide)) hr (snd_var (pe_var (i := 0) rfl (.inl rfl) rfl rfl)) rfl)) (blkB_ok (N := ["web", "rows", "row", "following", "due"]) (sc := defScope st_bank_last) rfl (by decide +kernel)) (fun _ _ _ _ _ => (sndG_name (pg_name (i := 4) nd rfl (.inl rfl) (.inr rfl)))) (fun _ _ _ _ _ => sndTs_nil) (fun _ _ _ _ _ => (snd_rv (snd_call (io := false) ((ok_bank_owed (Pg := Pg) (w := w) (base := base) KX G c).mono (show 1 ≤ 6 by decide)) hr rfl (glo_ok KX G (c.a.fact 37 (f := .glo "bank_owed") rfl)) (keep_ok (c.a.fact 38 (f := .keep "bank_owed") rfl)) (sndA_cons (snd_var (pe_var (i := 4) rfl (.inl rfl) rfl rfl)) sndA_nil rfl) rfl rfl rfl))) (fun _ => rfl))) sndA_nil rfl) (by decide) rfl rfl rfl) (sndG_name (pg_name (i := 2) nd rfl (.inl rfl) (.inl rfl))) rfl rfl rfl)
 (sndSs_cons (sndS_asg (noExc_name 3) (snd_rv (snd_call (io := false) ((ok_bank_next (Pg := Pg) (w := w) (base := base) KX G c).mono (show 6 ≤ 6 by decide)) hr rfl (glo_ok KX G (c.a.fact 52 (f := .glo "bank_next") rfl)) (keep_ok (c.a.fact 53 (f := .keep "bank_next") rfl)) (sndA_cons (snd_var (pe_var (i := 0) rfl (.inl rfl) rfl rfl)) (sndA_cons (snd_var (pe_var (i := 1) rfl (.inl rfl) rfl rfl)) (sndA_cons (snd_var (pe_var (i := 2) rfl (.inl rfl) rfl rfl)) sndA_nil rfl) rfl) rfl) rfl rfl rfl)) (sndG_name (pg_name (i := 3) nd rfl (.inl rfl) (.inl rfl))) rfl rfl rfl)
 (sndSs_cons (sndS_while 5000 (passes_of rfl) (snd_cmpT (op_neD hr.units) o_ne (by first | rfl | exact nomark _) (snd_var (pe_var (i := 3) rfl (.inl rfl) rfl rfl)) (snd_var (pe_var (i := 2) rfl (.inl rfl) rfl rfl))) (sndSs_cons (sndS_asg (noExc_name 2) (snd_var (pe_var (i := 3) rfl (.inl rfl) rfl rfl)) (sndG_name (pg_name (i := 2) nd rfl (.inl rfl) (.inl rfl))) rfl rfl rfl)
 (sndSs_cons (sndS_asg (noExc_name 3) (snd_rv (snd_call (io := false) ((ok_bank_next (Pg := Pg) (w := w) (base := base) KX G c).mono (show 6 ≤ 6 by decide)) hr rfl (glo_ok KX G (c.a.fact 52 (f := .glo "bank_next") rfl)) (keep_ok (c.a.fact 53 (f := .keep "bank_next") rfl)) (sndA_cons (snd_var (pe_var (i := 0) rfl (.inl rfl) rfl rfl)) (sndA_cons (snd_var (pe_var (i := 1) rfl (.inl rfl) rfl rfl)) (sndA_cons (snd_var (pe_var (i := 2) rfl (.inl rfl) rfl rfl)) sndA_nil rfl) rfl) rfl) rfl rfl rfl)) (sndG_name (pg_name (i := 3) nd rfl (.inl rfl) (.inl rfl))) rfl rfl rfl)
 sndSs_nil)))
 (sndSs_cons (sndS_ret (snd_var (pe_var (i := 2) rfl (.inl rfl) rfl rfl)))
 sndSs_nil))))
theorem ok_bank_last (KX : K.In h) (G : h.Ns mainGlobals mg) (c : SaysV fa fn ex K) : FnR Pg w K mg base (L2.CX Pg w) 7 ((d_bank_last).at_ K) (SpOf (cK K) g_bank_last) := by
  obtain ⟨fd, F⟩ := c.a.def_ 25 (d := d_bank_last) rfl
  exact fnR_all (fo_bank_last KX G c F) (FunD.bindsN F fun _ _ _ _ _ _ us hl => match us, hl with | [_, _], _ => rfl)
theorem sc_bank_rows_to : FnScope ["web", "most", "rows"] ["web", "most"] (defScope st_bank_rows_to) := ⟨rfl, rfl, rfl, by decide +kernel, rfl, by decide +kernel, by decide +kernel⟩
theorem fo_bank_rows_to (KX : K.In h) (G : h.Ns mainGlobals mg) (c : SaysV fa fn ex K) {fd : FuncData} (F : FunD K "bank_rows_to" "bank_rows_to" (defArgs st_bank_rows_to) (defBody st_bank_rows_to) (defScope st_bank_rows_to) (d_bank_rows_to.dvs K) [] ((d_bank_rows_to).at_ K) fd) : FnOk Pg w K mg base (L2.CX Pg w) 8 ((d_bank_rows_to).at_ K) fd ["web", "most"] (SpOf (cK K) g_bank_rows_to) :=
  fn_def (N := ["web", "most", "rows"]) (mb := m_bank_rows_to) F sc_bank_rows_to fun cdv A outer s H E hr => by
  have nd : (["web", "most", "rows"] : List Str).Nodup := sc_bank_rows_to.nd
  exact (sndSs_cons (sndS_own (sndF_lst sndA_nil) (pg_name (i := 2) nd rfl (.inl rfl) (.inl rfl)) rfl rfl rfl)
 (sndSs_cons (sndS_while 64 (passes_of rfl) (snd_cmpT op_le o_le (by first | rfl | exact nomark _) (snd_callB call_len o_len rfl (free_ok KX G (c.a.fact 1 (f := .free "len") rfl)) rfl (sndA_cons (snd_var (pe_var (i := 2) rfl (.inl rfl) rfl rfl)) sndA_nil rfl) (by decide) rfl rfl rfl) (snd_var (pe_var (i := 1) rfl (.inl rfl) rfl rfl))) (sndSs_cons (sndS_expr (snd_methN o_append (fun h ha => pe_bm PySem.F.plainAttrs_list PySem.F.slot_list_append PySem.F.type_list_append mt_append h ha rfl rfl rfl rfl rfl) (pe_var (i := 2) rfl (.inl rfl) rfl rfl) (sndA_cons (snd_rv (snd_call (io := false) ((ok_bank_last (Pg := Pg) (w := w) (base := base) KX G c).mono (show 7 ≤ 7 by decide)) hr rfl (glo_ok KX G (c.a.fact 54 (f := .glo "bank_last") rfl)) (keep_ok (c.a.fact 55 (f := .keep "bank_last") rfl)) (sndA_cons (snd_var (pe_var (i := 0) rfl (.inl rfl) rfl rfl)) (sndA_cons (snd_var (pe_var (i := 2) rfl (.inl rfl) rfl rfl)) sndA_nil rfl) rfl) rfl rfl rfl)) sndA_nil rfl)) rfl)
 sndSs_nil))
 (sndSs_cons (sndS_ret (snd_callTy call_tuple_of o_tuple rfl (free_ok KX G (c.a.fact 39 (f := .free "tuple") rfl)) rfl (sndA_cons (snd_var (pe_var (i := 2) rfl (.inl rfl) rfl rfl)) sndA_nil rfl) (by decide) rfl rfl rfl))
 sndSs_nil)))
theorem ok_bank_rows_to (KX : K.In h) (G : h.Ns mainGlobals mg) (c : SaysV fa fn ex K) : FnR Pg w K mg base (L2.CX Pg w) 8 ((d_bank_rows_to).at_ K) (SpOf (cK K) g_bank_rows_to) := by
  obtain ⟨fd, F⟩ := c.a.def_ 26 (d := d_bank_rows_to) rfl
  exact fnR_all (fo_bank_rows_to KX G c F) (FunD.bindsN F fun _ _ _ _ _ _ us hl => match us, hl with | [_, _], _ => rfl)
theorem sc_bank_rows : FnScope ["web", "most"] ["web", "most"] (defScope st_bank_rows) := ⟨rfl, rfl, rfl, by decide +kernel, rfl, by decide +kernel, by decide +kernel⟩
theorem fo_bank_rows (KX : K.In h) (G : h.Ns mainGlobals mg) (c : SaysV fa fn ex K) {fd : FuncData} (F : FunD K "bank_rows" "bank_rows" (defArgs st_bank_rows) (defBody st_bank_rows) (defScope st_bank_rows) (d_bank_rows.dvs K) [] ((d_bank_rows).at_ K) fd) : FnOk Pg w K mg base (L2.CX Pg w) 9 ((d_bank_rows).at_ K) fd ["web", "most"] (SpOf (cK K) g_bank_rows) :=
  fn_def (N := ["web", "most"]) (mb := m_bank_rows) F sc_bank_rows fun cdv A outer s H E hr => by
  have nd : (["web", "most"] : List Str).Nodup := sc_bank_rows.nd
  exact (sndSs_cons (sndS_expr (snd_rv (snd_call (io := false) ((ok_need_web (Pg := Pg) (w := w) (base := base) KX G c).mono (show 1 ≤ 8 by decide)) hr rfl (glo_ok KX G (c.a.fact 22 (f := .glo "need_web") rfl)) (keep_ok (c.a.fact 23 (f := .keep "need_web") rfl)) (sndA_cons (snd_var (pe_var (i := 0) rfl (.inl rfl) rfl rfl)) sndA_nil rfl) rfl rfl rfl)) rfl)
 (sndSs_cons (sndS_expr (snd_rv (snd_call (io := false) ((ok_need_integer (Pg := Pg) (w := w) (base := base) KX G c).mono (show 2 ≤ 8 by decide)) hr rfl (glo_ok KX G (c.a.fact 27 (f := .glo "need_integer") rfl)) (keep_ok (c.a.fact 28 (f := .keep "need_integer") rfl)) (sndA_cons (snd_var (pe_var (i := 1) rfl (.inl rfl) rfl rfl)) (sndA_cons (snd_const pe_str (fun _ => Rep.ofStr)) sndA_nil rfl) rfl) rfl rfl rfl)) rfl)
 (sndSs_cons (sndS_expr (snd_rv (snd_call (io := false) ((ok_need_from (Pg := Pg) (w := w) (base := base) KX G c).mono (show 1 ≤ 8 by decide)) hr rfl (glo_ok KX G (c.a.fact 30 (f := .glo "need_from") rfl)) (keep_ok (c.a.fact 31 (f := .keep "need_from") rfl)) (sndA_cons (snd_var (pe_var (i := 1) rfl (.inl rfl) rfl rfl)) (sndA_cons (snd_const pe_int (fun _ => Rep.ofInt)) (sndA_cons (snd_const pe_str (fun _ => Rep.ofStr)) sndA_nil rfl) rfl) rfl) rfl rfl rfl)) rfl)
 (sndSs_cons (sndS_expr (snd_rv (snd_call (io := false) ((ok_need_up_to (Pg := Pg) (w := w) (base := base) KX G c).mono (show 1 ≤ 8 by decide)) hr rfl (glo_ok KX G (c.a.fact 34 (f := .glo "need_up_to") rfl)) (keep_ok (c.a.fact 35 (f := .keep "need_up_to") rfl)) (sndA_cons (snd_var (pe_var (i := 1) rfl (.inl rfl) rfl rfl)) (sndA_cons (let ⟨t, ht⟩ := (int_ok KX G (c.a.fact 33 (f := .int "BANK_MOST" (60)) rfl)); snd_const (pe_glob (v := .int 60) rfl ht ⟨t, rfl⟩ rfl) (fun _ => Rep.ofInt)) (sndA_cons (snd_const pe_str (fun _ => Rep.ofStr)) sndA_nil rfl) rfl) rfl) rfl rfl rfl)) rfl)
 (sndSs_cons (sndS_expr (snd_rv (snd_call (io := false) ((ok_need_up_to (Pg := Pg) (w := w) (base := base) KX G c).mono (show 1 ≤ 8 by decide)) hr rfl (glo_ok KX G (c.a.fact 34 (f := .glo "need_up_to") rfl)) (keep_ok (c.a.fact 35 (f := .keep "need_up_to") rfl)) (sndA_cons (let z := (propB_ok (c.at_ 6 (f := (fun K => propB K (ga K "Web") "greatest_due")) rfl)); snd_prop (sclsB_ok (c.at_ 4 (f := (fun K => sclsB K (ga K "Web"))) rfl)) z.at_ z.get z.tk z.rc ((ok_Web__greatest_due (Pg := Pg) (w := w) (base := base) KX G c).mono (show 1 ≤ 7 by decide)) hr (snd_var (pe_var (i := 0) rfl (.inl rfl) rfl rfl)) rfl) (sndA_cons (let ⟨t, ht⟩ := (int_ok KX G (c.a.fact 36 (f := .int "BANK_DUE" (1000000)) rfl)); snd_const (pe_glob (v := .int 1000000) rfl ht ⟨t, rfl⟩ rfl) (fun _ => Rep.ofInt)) (sndA_cons (snd_const pe_str (fun _ => Rep.ofStr)) sndA_nil rfl) rfl) rfl) rfl rfl rfl)) rfl)
 (sndSs_cons (sndS_ret (snd_rv (snd_call (io := false) ((ok_bank_rows_to (Pg := Pg) (w := w) (base := base) KX G c).mono (show 8 ≤ 8 by decide)) hr rfl (glo_ok KX G (c.a.fact 56 (f := .glo "bank_rows_to") rfl)) (keep_ok (c.a.fact 57 (f := .keep "bank_rows_to") rfl)) (sndA_cons (snd_var (pe_var (i := 0) rfl (.inl rfl) rfl rfl)) (sndA_cons (snd_var (pe_var (i := 1) rfl (.inl rfl) rfl rfl)) sndA_nil rfl) rfl) rfl rfl rfl)))
 sndSs_nil))))))
theorem ok_bank_rows (KX : K.In h) (G : h.Ns mainGlobals mg) (c : SaysV fa fn ex K) : FnR Pg w K mg base (L2.CX Pg w) 9 ((d_bank_rows).at_ K) (SpOf (cK K) g_bank_rows) := by
  obtain ⟨fd, F⟩ := c.a.def_ 27 (d := d_bank_rows) rfl
  exact fnR_all (fo_bank_rows KX G c F) (FunD.bindsN F fun _ _ _ _ _ _ us hl => match us, hl with | [_, _], _ => rfl)
theorem sc_need_between : FnScope ["number", "least", "most", "what"] ["number", "least", "most", "what"] (defScope st_need_between) := ⟨rfl, rfl, rfl, by decide +kernel, rfl, by decide +kernel, by decide +kernel⟩
theorem fo_need_between (KX : K.In h) (G : h.Ns mainGlobals mg) (c : SaysV fa fn ex K) {fd : FuncData} (F : FunD K "need_between" "need_between" (defArgs st_need_between) (defBody st_need_between) (defScope st_need_between) (d_need_between.dvs K) [] ((d_need_between).at_ K) fd) : FnOk Pg w K mg base (L2.CX Pg w) 1 ((d_need_between).at_ K) fd ["number", "least", "most", "what"] (SpOf (cK K) g_need_between) :=
  fn_def (N := ["number", "least", "most", "what"]) (mb := m_need_between) F sc_need_between fun cdv A outer s H E hr => by
  have nd : (["number", "least", "most", "what"] : List Str).Nodup := sc_need_between.nd
  exact (sndSs_cons (sndS_if (SndW.t (snd_orT (snd_cmpT op_lt o_lt (by first | rfl | exact nomark _) (snd_var (pe_var (i := 0) rfl (.inl rfl) rfl rfl)) (snd_var (pe_var (i := 1) rfl (.inl rfl) rfl rfl))) (snd_orT1 (snd_cmpT op_gt o_gt (by first | rfl | exact nomark _) (snd_var (pe_var (i := 0) rfl (.inl rfl) rfl rfl)) (snd_var (pe_var (i := 2) rfl (.inl rfl) rfl rfl)))))) (sndSs_cons (sndS_raise1 (k := 2) PySem.F.excBase_Exception (excB_ok rfl (c.at_ 2 (f := (fun K => excB (cK K).K ((cK K).cls 2))) rfl)) (glo_ok KX G (c.a.fact 29 (f := .glo "WrongNumber") rfl)) rfl rfl (snd_joined (sndJ_cons (snd_fmt (snd_var (pe_var (i := 3) rfl (.inl rfl) rfl rfl))) (sndJ_cons (snd_const pe_str (fun _ => Rep.ofStr)) (sndJ_cons (snd_fmt (snd_var (pe_var (i := 1) rfl (.inl rfl) rfl rfl))) (sndJ_cons (snd_const pe_str (fun _ => Rep.ofStr)) (sndJ_cons (snd_fmt (snd_var (pe_var (i := 2) rfl (.inl rfl) rfl rfl))) sndJ_nil)))))) rfl rfl rfl)
 sndSs_nil) sndSs_nil)
 sndSs_nil)
theorem ok_need_between (KX : K.In h) (G : h.Ns mainGlobals mg) (c : SaysV fa fn ex K) : FnR Pg w K mg base (L2.CX Pg w) 1 ((d_need_between).at_ K) (SpOf (cK K) g_need_between) := by
  obtain ⟨fd, F⟩ := c.a.def_ 28 (d := d_need_between) rfl
  exact fnR_all (fo_need_between KX G c F) (FunD.bindsN F fun _ _ _ _ _ _ us hl => match us, hl with | [_, _, _, _], _ => rfl)
theorem sc_need_made : FnScope ["count", "mark", "most"] ["count", "mark", "most"] (defScope st_need_made) := ⟨rfl, rfl, rfl, by decide +kernel, rfl, by decide +kernel, by decide +kernel⟩
theorem fo_need_made (KX : K.In h) (G : h.Ns mainGlobals mg) (c : SaysV fa fn ex K) {fd : FuncData} (F : FunD K "need_made" "need_made" (defArgs st_need_made) (defBody st_need_made) (defScope st_need_made) (d_need_made.dvs K) [] ((d_need_made).at_ K) fd) : FnOk Pg w K mg base (L2.CX Pg w) 3 ((d_need_made).at_ K) fd ["count", "mark", "most"] (SpOf (cK K) g_need_made) :=
  fn_def (N := ["count", "mark", "most"]) (mb := m_need_made) F sc_need_made fun cdv A outer s H E hr => by
  have nd : (["count", "mark", "most"] : List Str).Nodup := sc_need_made.nd
  exact (sndSs_cons (sndS_expr (snd_rv (snd_call (io := false) ((ok_need_integer (Pg := Pg) (w := w) (base := base) KX G c).mono (show 2 ≤ 2 by decide)) hr rfl (glo_ok KX G (c.a.fact 27 (f := .glo "need_integer") rfl)) (keep_ok (c.a.fact 28 (f := .keep "need_integer") rfl)) (sndA_cons (snd_var (pe_var (i := 0) rfl (.inl rfl) rfl rfl)) (sndA_cons (snd_const pe_str (fun _ => Rep.ofStr)) sndA_nil rfl) rfl) rfl rfl rfl)) rfl)
 (sndSs_cons (sndS_expr (snd_rv (snd_call (io := false) ((ok_need_integer (Pg := Pg) (w := w) (base := base) KX G c).mono (show 2 ≤ 2 by decide)) hr rfl (glo_ok KX G (c.a.fact 27 (f := .glo "need_integer") rfl)) (keep_ok (c.a.fact 28 (f := .keep "need_integer") rfl)) (sndA_cons (snd_var (pe_var (i := 1) rfl (.inl rfl) rfl rfl)) (sndA_cons (snd_const pe_str (fun _ => Rep.ofStr)) sndA_nil rfl) rfl) rfl rfl rfl)) rfl)
 (sndSs_cons (sndS_expr (snd_rv (snd_call (io := false) ((ok_need_from (Pg := Pg) (w := w) (base := base) KX G c).mono (show 1 ≤ 2 by decide)) hr rfl (glo_ok KX G (c.a.fact 30 (f := .glo "need_from") rfl)) (keep_ok (c.a.fact 31 (f := .keep "need_from") rfl)) (sndA_cons (snd_var (pe_var (i := 0) rfl (.inl rfl) rfl rfl)) (sndA_cons (snd_const pe_int (fun _ => Rep.ofInt)) (sndA_cons (snd_const pe_str (fun _ => Rep.ofStr)) sndA_nil rfl) rfl) rfl) rfl rfl rfl)) rfl)
 (sndSs_cons (sndS_expr (snd_rv (snd_call (io := false) ((ok_need_between (Pg := Pg) (w := w) (base := base) KX G c).mono (show 1 ≤ 2 by decide)) hr rfl (glo_ok KX G (c.a.fact 58 (f := .glo "need_between") rfl)) (keep_ok (c.a.fact 59 (f := .keep "need_between") rfl)) (sndA_cons (snd_var (pe_var (i := 1) rfl (.inl rfl) rfl rfl)) (sndA_cons (snd_const pe_int (fun _ => Rep.ofInt)) (sndA_cons (snd_const pe_int (fun _ => Rep.ofInt)) (sndA_cons (snd_const pe_str (fun _ => Rep.ofStr)) sndA_nil rfl) rfl) rfl) rfl) rfl rfl rfl)) rfl)
 (sndSs_cons (sndS_expr (snd_rv (snd_call (io := false) ((ok_need_up_to (Pg := Pg) (w := w) (base := base) KX G c).mono (show 1 ≤ 2 by decide)) hr rfl (glo_ok KX G (c.a.fact 34 (f := .glo "need_up_to") rfl)) (keep_ok (c.a.fact 35 (f := .keep "need_up_to") rfl)) (sndA_cons (snd_var (pe_var (i := 0) rfl (.inl rfl) rfl rfl)) (sndA_cons (snd_var (pe_var (i := 2) rfl (.inl rfl) rfl rfl)) (sndA_cons (snd_const pe_str (fun _ => Rep.ofStr)) sndA_nil rfl) rfl) rfl) rfl rfl rfl)) rfl)
 sndSs_nil)))))
theorem ok_need_made (KX : K.In h) (G : h.Ns mainGlobals mg) (c : SaysV fa fn ex K) : FnR Pg w K mg base (L2.CX Pg w) 3 ((d_need_made).at_ K) (SpOf (cK K) g_need_made) := by
  obtain ⟨fd, F⟩ := c.a.def_ 29 (d := d_need_made) rfl
  exact fnR_all (fo_need_made KX G c F) (FunD.bindsN F fun _ _ _ _ _ _ us hl => match us, hl with | [_, _, _], _ => rfl)
theorem sc_need_list : FnScope ["thing", "what"] ["thing", "what"] (defScope st_need_list) := ⟨rfl, rfl, rfl, by decide +kernel, rfl, by decide +kernel, by decide +kernel⟩
theorem fo_need_list (KX : K.In h) (G : h.Ns mainGlobals mg) (c : SaysV fa fn ex K) {fd : FuncData} (F : FunD K "need_list" "need_list" (defArgs st_need_list) (defBody st_need_list) (defScope st_need_list) (d_need_list.dvs K) [] ((d_need_list).at_ K) fd) : FnOk Pg w K mg base (L2.CX Pg w) 1 ((d_need_list).at_ K) fd ["thing", "what"] (SpOf (cK K) g_need_list) :=
  fn_def (N := ["thing", "what"]) (mb := m_need_list) F sc_need_list fun cdv A outer s H E hr => by
  have nd : (["thing", "what"] : List Str).Nodup := sc_need_list.nd
  exact (sndSs_cons (sndS_if (snd_notT (snd_truth rfl (fun _ => rfl) (snd_isLT rfl (free_ok KX G (c.a.fact 19 (f := .free "isinstance") rfl)) rfl (free_ok KX G (c.a.fact 9 (f := .free "list") rfl)) rfl (free_ok KX G (c.a.fact 39 (f := .free "tuple") rfl)) rfl (snd_var (pe_var (i := 0) rfl (.inl rfl) rfl rfl)) rfl rfl rfl rfl rfl))) (sndSs_cons (sndS_raise1 (k := 1) PySem.F.excBase_Exception (excB_ok rfl (c.at_ 1 (f := (fun K => excB (cK K).K ((cK K).cls 1))) rfl)) (glo_ok KX G (c.a.fact 21 (f := .glo "WrongKind") rfl)) rfl rfl (snd_joined (sndJ_cons (snd_fmt (snd_var (pe_var (i := 1) rfl (.inl rfl) rfl rfl))) (sndJ_cons (snd_const pe_str (fun _ => Rep.ofStr)) sndJ_nil))) rfl rfl rfl)
 sndSs_nil) sndSs_nil)
 sndSs_nil)
theorem ok_need_list (KX : K.In h) (G : h.Ns mainGlobals mg) (c : SaysV fa fn ex K) : FnR Pg w K mg base (L2.CX Pg w) 1 ((d_need_list).at_ K) (SpOf (cK K) g_need_list) := by
  obtain ⟨fd, F⟩ := c.a.def_ 30 (d := d_need_list) rfl
  exact fnR_all (fo_need_list KX G c F) (FunD.bindsN F fun _ _ _ _ _ _ us hl => match us, hl with | [_, _], _ => rfl)
theorem sc_need_integers : FnScope ["thing", "what", "one_part"] ["thing", "what"] (defScope st_need_integers) := ⟨rfl, rfl, rfl, by decide +kernel, rfl, by decide +kernel, by decide +kernel⟩
theorem fo_need_integers (KX : K.In h) (G : h.Ns mainGlobals mg) (c : SaysV fa fn ex K) {fd : FuncData} (F : FunD K "need_integers" "need_integers" (defArgs st_need_integers) (defBody st_need_integers) (defScope st_need_integers) (d_need_integers.dvs K) [] ((d_need_integers).at_ K) fd) : FnOk Pg w K mg base (L2.CX Pg w) 3 ((d_need_integers).at_ K) fd ["thing", "what"] (SpOf (cK K) g_need_integers) :=
  fn_def (N := ["thing", "what", "one_part"]) (mb := m_need_integers) F sc_need_integers fun cdv A outer s H E hr => by
  have nd : (["thing", "what", "one_part"] : List Str).Nodup := sc_need_integers.nd
  exact (sndSs_cons (sndS_expr (snd_rv (snd_call (io := false) ((ok_need_list (Pg := Pg) (w := w) (base := base) KX G c).mono (show 1 ≤ 2 by decide)) hr rfl (glo_ok KX G (c.a.fact 63 (f := .glo "need_list") rfl)) (keep_ok (c.a.fact 64 (f := .keep "need_list") rfl)) (sndA_cons (snd_var (pe_var (i := 0) rfl (.inl rfl) rfl rfl)) (sndA_cons (snd_var (pe_var (i := 1) rfl (.inl rfl) rfl rfl)) sndA_nil rfl) rfl) rfl rfl rfl)) rfl)
 (sndSs_cons (sndS_for (passes_of rfl) rfl (sndI_seq rfl (snd_var (pe_var (i := 0) rfl (.inl rfl) rfl rfl))) (sndG_name (pg_name (i := 2) nd rfl (.inl rfl) (.inl rfl))) (sndSs_cons (sndS_expr (snd_rv (snd_call (io := false) ((ok_need_integer (Pg := Pg) (w := w) (base := base) KX G c).mono (show 2 ≤ 2 by decide)) hr rfl (glo_ok KX G (c.a.fact 27 (f := .glo "need_integer") rfl)) (keep_ok (c.a.fact 28 (f := .keep "need_integer") rfl)) (sndA_cons (snd_var (pe_var (i := 2) rfl (.inl rfl) rfl rfl)) (sndA_cons (snd_joined (sndJ_cons (snd_const pe_str (fun _ => Rep.ofStr)) (sndJ_cons (snd_fmt (snd_var (pe_var (i := 1) rfl (.inl rfl) rfl rfl))) sndJ_nil))) sndA_nil rfl) rfl) rfl rfl rfl)) rfl)
 sndSs_nil) (fun _ => rfl))
 sndSs_nil))
theorem ok_need_integers (KX : K.In h) (G : h.Ns mainGlobals mg) (c : SaysV fa fn ex K) : FnR Pg w K mg base (L2.CX Pg w) 3 ((d_need_integers).at_ K) (SpOf (cK K) g_need_integers) := by
  obtain ⟨fd, F⟩ := c.a.def_ 31 (d := d_need_integers) rfl
  exact fnR_all (fo_need_integers KX G c F) (FunD.bindsN F fun _ _ _ _ _ _ us hl => match us, hl with | [_, _], _ => rfl)
theorem sc_has_due_kind : FnScope ["due"] ["due"] (defScope st_has_due_kind) := ⟨rfl, rfl, rfl, by decide +kernel, rfl, by decide +kernel, by decide +kernel⟩
theorem fo_has_due_kind (KX : K.In h) (G : h.Ns mainGlobals mg) (c : SaysV fa fn ex K) {fd : FuncData} (F : FunD K "has_due_kind" "has_due_kind" (defArgs st_has_due_kind) (defBody st_has_due_kind) (defScope st_has_due_kind) (d_has_due_kind.dvs K) [] ((d_has_due_kind).at_ K) fd) : FnOk Pg w K mg base (L2.CX Pg w) 2 ((d_has_due_kind).at_ K) fd ["due"] (SpOf (cK K) g_has_due_kind) :=
  fn_def (N := ["due"]) (mb := m_has_due_kind) F sc_has_due_kind fun cdv A outer s H E hr => by
  have nd : (["due"] : List Str).Nodup := sc_has_due_kind.nd
  exact (sndSs_cons (sndS_if (snd_cmpT op_isN o_is (by first | rfl | exact nomark _) (snd_var (pe_var (i := 0) rfl (.inl rfl) rfl rfl)) (snd_const pe_non (fun _ => Rep.ofNon))) (sndSs_cons (sndS_ret (snd_const pe_bl (fun _ => Rep.ofBl)))
 sndSs_nil) sndSs_nil)
 (sndSs_cons (sndS_if (SndW.t (snd_orT (snd_notT (snd_truth rfl (fun _ => rfl) (snd_isLT rfl (free_ok KX G (c.a.fact 19 (f := .free "isinstance") rfl)) rfl (free_ok KX G (c.a.fact 9 (f := .free "list") rfl)) rfl (free_ok KX G (c.a.fact 39 (f := .free "tuple") rfl)) rfl (snd_var (pe_var (i := 0) rfl (.inl rfl) rfl rfl)) rfl rfl rfl rfl rfl))) (snd_orT1 (snd_cmpT (op_neD hr.units) o_ne (by first | rfl | exact nomark _) (snd_callB call_len o_len rfl (free_ok KX G (c.a.fact 1 (f := .free "len") rfl)) rfl (sndA_cons (snd_var (pe_var (i := 0) rfl (.inl rfl) rfl rfl)) sndA_nil rfl) (by decide) rfl rfl rfl) (snd_const pe_int (fun _ => Rep.ofInt)))))) (sndSs_cons (sndS_ret (snd_const pe_bl (fun _ => Rep.ofBl)))
 sndSs_nil) sndSs_nil)
 (sndSs_cons (sndS_ret (snd_andV (snd_isT (n := 2) (by decide) rfl (by decide) rfl rfl (free_ok KX G (c.a.fact 19 (f := .free "isinstance") rfl)) rfl (free_ok KX G (c.a.fact 67 (f := .free "str") rfl)) rfl (snd_ix ix_seq o_ix (fun _ _ => rfl) (snd_var (pe_var (i := 0) rfl (.inl rfl) rfl rfl)) (snd_const pe_int (fun _ => Rep.ofInt))) rfl rfl rfl) (snd_one (snd_rv (snd_call (io := false) ((ok_is_integer (Pg := Pg) (w := w) (base := base) KX G c).mono (show 1 ≤ 1 by decide)) hr rfl (glo_ok KX G (c.a.fact 25 (f := .glo "is_integer") rfl)) (keep_ok (c.a.fact 26 (f := .keep "is_integer") rfl)) (sndA_cons (snd_ix ix_seq o_ix (fun _ _ => rfl) (snd_var (pe_var (i := 0) rfl (.inl rfl) rfl rfl)) (snd_const pe_int (fun _ => Rep.ofInt))) sndA_nil rfl) rfl rfl rfl)))))
 sndSs_nil)))
theorem ok_has_due_kind (KX : K.In h) (G : h.Ns mainGlobals mg) (c : SaysV fa fn ex K) : FnR Pg w K mg base (L2.CX Pg w) 2 ((d_has_due_kind).at_ K) (SpOf (cK K) g_has_due_kind) := by
  obtain ⟨fd, F⟩ := c.a.def_ 32 (d := d_has_due_kind) rfl
  exact fnR_all (fo_has_due_kind KX G c F) (FunD.bindsN F fun _ _ _ _ _ _ us hl => match us, hl with | [_], _ => rfl)
theorem sc__look_kinds : FnScope ["first", "second", "marks", "dues", "lists", "one_list", "one_due"] ["first", "second", "marks", "dues"] (defScope st__look_kinds) := ⟨rfl, rfl, rfl, by decide +kernel, rfl, by decide +kernel, by decide +kernel⟩
theorem fo__look_kinds (KX : K.In h) (G : h.Ns mainGlobals mg) (c : SaysV fa fn ex K) {fd : FuncData} (F : FunD K "_look_kinds" "_look_kinds" (defArgs st__look_kinds) (defBody st__look_kinds) (defScope st__look_kinds) (d__look_kinds.dvs K) [] ((d__look_kinds).at_ K) fd) : FnOk Pg w K mg base (L2.CX Pg w) 4 ((d__look_kinds).at_ K) fd ["first", "second", "marks", "dues"] (SpOf (cK K) g__look_kinds) :=
  fn_def (N := ["first", "second", "marks", "dues", "lists", "one_list", "one_due"]) (mb := m__look_kinds) F sc__look_kinds fun cdv A outer s H E hr => by
  have nd : (["first", "second", "marks", "dues", "lists", "one_list", "one_due"] : List Str).Nodup := sc__look_kinds.nd
  exact (sndSs_cons (sndS_for (passes_of rfl) rfl (sndI_seq rfl (snd_tup (sndA_cons (snd_var (pe_var (i := 0) rfl (.inl rfl) rfl rfl)) (sndA_cons (snd_var (pe_var (i := 1) rfl (.inl rfl) rfl rfl)) sndA_nil rfl) rfl))) (sndG_name (pg_name (i := 4) nd rfl (.inl rfl) (.inl rfl))) (sndSs_cons (sndS_expr (snd_rv (snd_call (io := false) ((ok_need_list (Pg := Pg) (w := w) (base := base) KX G c).mono (show 1 ≤ 3 by decide)) hr rfl (glo_ok KX G (c.a.fact 63 (f := .glo "need_list") rfl)) (keep_ok (c.a.fact 64 (f := .keep "need_list") rfl)) (sndA_cons (snd_var (pe_var (i := 4) rfl (.inl rfl) rfl rfl)) (sndA_cons (snd_const pe_str (fun _ => Rep.ofStr)) sndA_nil rfl) rfl) rfl rfl rfl)) rfl)
 (sndSs_cons (sndS_for (passes_of rfl) rfl (sndI_seq rfl (snd_var (pe_var (i := 4) rfl (.inl rfl) rfl rfl))) (sndG_name (pg_name (i := 5) nd rfl (.inl rfl) (.inl rfl))) (sndSs_cons (sndS_expr (snd_rv (snd_call (io := false) ((ok_need_integers (Pg := Pg) (w := w) (base := base) KX G c).mono (show 3 ≤ 3 by decide)) hr rfl (glo_ok KX G (c.a.fact 65 (f := .glo "need_integers") rfl)) (keep_ok (c.a.fact 66 (f := .keep "need_integers") rfl)) (sndA_cons (snd_var (pe_var (i := 5) rfl (.inl rfl) rfl rfl)) (sndA_cons (snd_const pe_str (fun _ => Rep.ofStr)) sndA_nil rfl) rfl) rfl rfl rfl)) rfl)
 sndSs_nil) (fun _ => rfl))
 sndSs_nil)) (fun _ => rfl))
 (sndSs_cons (sndS_expr (snd_rv (snd_call (io := false) ((ok_need_integers (Pg := Pg) (w := w) (base := base) KX G c).mono (show 3 ≤ 3 by decide)) hr rfl (glo_ok KX G (c.a.fact 65 (f := .glo "need_integers") rfl)) (keep_ok (c.a.fact 66 (f := .keep "need_integers") rfl)) (sndA_cons (snd_var (pe_var (i := 2) rfl (.inl rfl) rfl rfl)) (sndA_cons (snd_const pe_str (fun _ => Rep.ofStr)) sndA_nil rfl) rfl) rfl rfl rfl)) rfl)
 (sndSs_cons (sndS_expr (snd_rv (snd_call (io := false) ((ok_need_list (Pg := Pg) (w := w) (base := base) KX G c).mono (show 1 ≤ 3 by decide)) hr rfl (glo_ok KX G (c.a.fact 63 (f := .glo "need_list") rfl)) (keep_ok (c.a.fact 64 (f := .keep "need_list") rfl)) (sndA_cons (snd_var (pe_var (i := 3) rfl (.inl rfl) rfl rfl)) (sndA_cons (snd_const pe_str (fun _ => Rep.ofStr)) sndA_nil rfl) rfl) rfl rfl rfl)) rfl)
 (sndSs_cons (sndS_for (passes_of rfl) rfl (sndI_seq rfl (snd_var (pe_var (i := 3) rfl (.inl rfl) rfl rfl))) (sndG_name (pg_name (i := 6) nd rfl (.inl rfl) (.inl rfl))) (sndSs_cons (sndS_if (snd_notT (snd_truth rfl (fun _ => rfl) (snd_rv (snd_call (io := false) ((ok_has_due_kind (Pg := Pg) (w := w) (base := base) KX G c).mono (show 2 ≤ 3 by decide)) hr rfl (glo_ok KX G (c.a.fact 68 (f := .glo "has_due_kind") rfl)) (keep_ok (c.a.fact 69 (f := .keep "has_due_kind") rfl)) (sndA_cons (snd_var (pe_var (i := 6) rfl (.inl rfl) rfl rfl)) sndA_nil rfl) rfl rfl rfl)))) (sndSs_cons (sndS_raise1 (k := 1) PySem.F.excBase_Exception (excB_ok rfl (c.at_ 1 (f := (fun K => excB (cK K).K ((cK K).cls 1))) rfl)) (glo_ok KX G (c.a.fact 21 (f := .glo "WrongKind") rfl)) rfl rfl (snd_const pe_str (fun _ => Rep.ofStr)) rfl rfl rfl)
 sndSs_nil) sndSs_nil)
 sndSs_nil) (fun _ => rfl))
 sndSs_nil))))
theorem ok__look_kinds (KX : K.In h) (G : h.Ns mainGlobals mg) (c : SaysV fa fn ex K) : FnR Pg w K mg base (L2.CX Pg w) 4 ((d__look_kinds).at_ K) (SpOf (cK K) g__look_kinds) := by
  obtain ⟨fd, F⟩ := c.a.def_ 33 (d := d__look_kinds) rfl
  exact fnR_all (fo__look_kinds KX G c F) (FunD.bindsN F fun _ _ _ _ _ _ us hl => match us, hl with | [_, _, _, _], _ => rfl)
theorem sc_has_due_range : FnScope ["due"] ["due"] (defScope st_has_due_range) := ⟨rfl, rfl, rfl, by decide +kernel, rfl, by decide +kernel, by decide +kernel⟩
theorem fo_has_due_range (KX : K.In h) (G : h.Ns mainGlobals mg) (c : SaysV fa fn ex K) {fd : FuncData} (F : FunD K "has_due_range" "has_due_range" (defArgs st_has_due_range) (defBody st_has_due_range) (defScope st_has_due_range) (d_has_due_range.dvs K) [] ((d_has_due_range).at_ K) fd) : FnOk Pg w K mg base (L2.CX Pg w) 1 ((d_has_due_range).at_ K) fd ["due"] (SpOf (cK K) g_has_due_range) :=
  fn_def (N := ["due"]) (mb := m_has_due_range) F sc_has_due_range fun cdv A outer s H E hr => by
  have nd : (["due"] : List Str).Nodup := sc_has_due_range.nd
  exact (sndSs_cons (sndS_ret (snd_orV (snd_cmp op_isN o_is (by first | rfl | exact nomark _) (snd_var (pe_var (i := 0) rfl (.inl rfl) rfl rfl)) (snd_const pe_non (fun _ => Rep.ofNon))) (snd_one (snd_andV (snd_cmp op_in_seq o_in (by first | rfl | exact nomark _) (snd_ix ix_seq o_ix (fun _ _ => rfl) (snd_var (pe_var (i := 0) rfl (.inl rfl) rfl rfl)) (snd_const pe_int (fun _ => Rep.ofInt))) (snd_tup (sndA_cons (snd_const pe_str (fun _ => Rep.ofStr)) (sndA_cons (snd_const pe_str (fun _ => Rep.ofStr)) sndA_nil rfl) rfl))) (snd_one (snd_cmp op_ge o_ge (by first | rfl | exact nomark _) (snd_ix ix_seq o_ix (fun _ _ => rfl) (snd_var (pe_var (i := 0) rfl (.inl rfl) rfl rfl)) (snd_const pe_int (fun _ => Rep.ofInt))) (snd_const pe_int (fun _ => Rep.ofInt))))))))
 sndSs_nil)
theorem ok_has_due_range (KX : K.In h) (G : h.Ns mainGlobals mg) (c : SaysV fa fn ex K) : FnR Pg w K mg base (L2.CX Pg w) 1 ((d_has_due_range).at_ K) (SpOf (cK K) g_has_due_range) := by
  obtain ⟨fd, F⟩ := c.a.def_ 34 (d := d_has_due_range) rfl
  exact fnR_all (fo_has_due_range KX G c F) (FunD.bindsN F fun _ _ _ _ _ _ us hl => match us, hl with | [_], _ => rfl)
theorem sc__look_stand : FnScope ["size", "first", "second", "mark", "due", "one_step"] ["size", "first", "second", "mark", "due"] (defScope st__look_stand) := ⟨rfl, rfl, rfl, by decide +kernel, rfl, by decide +kernel, by decide +kernel⟩
theorem fo__look_stand (KX : K.In h) (G : h.Ns mainGlobals mg) (c : SaysV fa fn ex K) {fd : FuncData} (F : FunD K "_look_stand" "_look_stand" (defArgs st__look_stand) (defBody st__look_stand) (defScope st__look_stand) (d__look_stand.dvs K) [] ((d__look_stand).at_ K) fd) : FnOk Pg w K mg base (L2.CX Pg w) 2 ((d__look_stand).at_ K) fd ["size", "first", "second", "mark", "due"] (SpOf (cK K) g__look_stand) :=
  fn_def (N := ["size", "first", "second", "mark", "due", "one_step"]) (mb := m__look_stand) F sc__look_stand fun cdv A outer s H E hr => by
  have nd : (["size", "first", "second", "mark", "due", "one_step"] : List Str).Nodup := sc__look_stand.nd
  exact (sndSs_cons (sndS_if (snd_cmpT (op_neD hr.units) o_ne (by first | rfl | exact nomark _) (snd_callTy h_bool o_bool rfl (free_ok KX G (c.a.fact 24 (f := .free "bool") rfl)) rfl (sndA_cons (snd_var (pe_var (i := 1) rfl (.inl rfl) rfl rfl)) sndA_nil rfl) (by decide) rfl rfl rfl) (snd_callTy h_bool o_bool rfl (free_ok KX G (c.a.fact 24 (f := .free "bool") rfl)) rfl (sndA_cons (snd_var (pe_var (i := 2) rfl (.inl rfl) rfl rfl)) sndA_nil rfl) (by decide) rfl rfl rfl)) (sndSs_cons (sndS_raise1 (k := 3) PySem.F.excBase_Exception (excB_ok rfl (c.at_ 16 (f := (fun K => excB (cK K).K ((cK K).cls 3))) rfl)) (glo_ok KX G (c.a.fact 72 (f := .glo "WrongWeb") rfl)) rfl rfl (snd_const pe_str (fun _ => Rep.ofStr)) rfl rfl rfl)
 sndSs_nil) sndSs_nil)
 (sndSs_cons (sndS_for (passes_of rfl) rfl (sndI_seq rfl (snd_frzF (sndF_bin op_cat o_cat (snd_frzF (sndF_callTy call_list_of o_list rfl (free_ok KX G (c.a.fact 9 (f := .free "list") rfl)) rfl (sndA_cons (snd_var (pe_var (i := 1) rfl (.inl rfl) rfl rfl)) sndA_nil rfl) (by decide) rfl rfl rfl)) (snd_frzF (sndF_callTy call_list_of o_list rfl (free_ok KX G (c.a.fact 9 (f := .free "list") rfl)) rfl (sndA_cons (snd_var (pe_var (i := 2) rfl (.inl rfl) rfl rfl)) sndA_nil rfl) (by decide) rfl rfl rfl))))) (sndG_name (pg_name (i := 5) nd rfl (.inl rfl) (.inl rfl))) (sndSs_cons (sndS_if (SndW.t (snd_orT (snd_cmpT op_lt o_lt (by first | rfl | exact nomark _) (snd_var (pe_var (i := 5) rfl (.inl rfl) rfl rfl)) (snd_const pe_int (fun _ => Rep.ofInt))) (snd_orT1 (snd_cmpT op_ge o_ge (by first | rfl | exact nomark _) (snd_var (pe_var (i := 5) rfl (.inl rfl) rfl rfl)) (snd_var (pe_var (i := 0) rfl (.inl rfl) rfl rfl)))))) (sndSs_cons (sndS_raise1 (k := 3) PySem.F.excBase_Exception (excB_ok rfl (c.at_ 16 (f := (fun K => excB (cK K).K ((cK K).cls 3))) rfl)) (glo_ok KX G (c.a.fact 72 (f := .glo "WrongWeb") rfl)) rfl rfl (snd_const pe_str (fun _ => Rep.ofStr)) rfl rfl rfl)
 sndSs_nil) sndSs_nil)
 sndSs_nil) (fun _ => rfl))
 (sndSs_cons (sndS_if (SndW.t (snd_andT (snd_cmpT (op_neD hr.units) o_ne (by first | rfl | exact nomark _) (snd_var (pe_var (i := 3) rfl (.inl rfl) rfl rfl)) (snd_const pe_int (fun _ => Rep.ofInt))) (snd_andT1 (snd_cmpT (op_neD hr.units) o_ne (by first | rfl | exact nomark _) (snd_var (pe_var (i := 3) rfl (.inl rfl) rfl rfl)) (snd_const pe_int (fun _ => Rep.ofInt)))))) (sndSs_cons (sndS_raise1 (k := 3) PySem.F.excBase_Exception (excB_ok rfl (c.at_ 16 (f := (fun K => excB (cK K).K ((cK K).cls 3))) rfl)) (glo_ok KX G (c.a.fact 72 (f := .glo "WrongWeb") rfl)) rfl rfl (snd_const pe_str (fun _ => Rep.ofStr)) rfl rfl rfl)
 sndSs_nil) sndSs_nil)
 (sndSs_cons (sndS_if (snd_notT (snd_truth rfl (fun _ => rfl) (snd_rv (snd_call (io := false) ((ok_has_due_range (Pg := Pg) (w := w) (base := base) KX G c).mono (show 1 ≤ 1 by decide)) hr rfl (glo_ok KX G (c.a.fact 73 (f := .glo "has_due_range") rfl)) (keep_ok (c.a.fact 74 (f := .keep "has_due_range") rfl)) (sndA_cons (snd_var (pe_var (i := 4) rfl (.inl rfl) rfl rfl)) sndA_nil rfl) rfl rfl rfl)))) (sndSs_cons (sndS_raise1 (k := 3) PySem.F.excBase_Exception (excB_ok rfl (c.at_ 16 (f := (fun K => excB (cK K).K ((cK K).cls 3))) rfl)) (glo_ok KX G (c.a.fact 72 (f := .glo "WrongWeb") rfl)) rfl rfl (snd_const pe_str (fun _ => Rep.ofStr)) rfl rfl rfl)
 sndSs_nil) sndSs_nil)
 sndSs_nil))))
theorem ok__look_stand (KX : K.In h) (G : h.Ns mainGlobals mg) (c : SaysV fa fn ex K) : FnR Pg w K mg base (L2.CX Pg w) 2 ((d__look_stand).at_ K) (SpOf (cK K) g__look_stand) := by
  obtain ⟨fd, F⟩ := c.a.def_ 35 (d := d__look_stand) rfl
  exact fnR_all (fo__look_stand KX G c F) (FunD.bindsN F fun _ _ _ _ _ _ us hl => match us, hl with | [_, _, _, _, _], _ => rfl)
theorem sc__look_web : FnScope ["first", "second", "marks", "dues", "size", "at", "one_due"] ["first", "second", "marks", "dues"] (defScope st__look_web) := ⟨rfl, rfl, rfl, by decide +kernel, rfl, by decide +kernel, by decide +kernel⟩
theorem fo__look_web (KX : K.In h) (G : h.Ns mainGlobals mg) (c : SaysV fa fn ex K) {fd : FuncData} (F : FunD K "_look_web" "_look_web" (defArgs st__look_web) (defBody st__look_web) (defScope st__look_web) (d__look_web.dvs K) [] ((d__look_web).at_ K) fd) : FnOk Pg w K mg base (L2.CX Pg w) 3 ((d__look_web).at_ K) fd ["first", "second", "marks", "dues"] (SpOf (cK K) g__look_web) :=
  fn_def (N := ["first", "second", "marks", "dues", "size", "at", "one_due"]) (mb := m__look_web) F sc__look_web fun cdv A outer s H E hr => by
  have nd : (["first", "second", "marks", "dues", "size", "at", "one_due"] : List Str).Nodup := sc__look_web.nd
  exact (sndSs_cons (sndS_asg (noExc_name 4) (snd_callB call_len o_len rfl (free_ok KX G (c.a.fact 1 (f := .free "len") rfl)) rfl (sndA_cons (snd_var (pe_var (i := 2) rfl (.inl rfl) rfl rfl)) sndA_nil rfl) (by decide) rfl rfl rfl) (sndG_name (pg_name (i := 4) nd rfl (.inl rfl) (.inl rfl))) rfl rfl rfl)
 (sndSs_cons (sndS_if (SndW.t (snd_orT (snd_cmpT (op_eqD hr.units) o_eq (by first | rfl | exact nomark _) (snd_var (pe_var (i := 4) rfl (.inl rfl) rfl rfl)) (snd_const pe_int (fun _ => Rep.ofInt))) (snd_orT (snd_cmpT (op_neD hr.units) o_ne (by first | rfl | exact nomark _) (snd_callB call_len o_len rfl (free_ok KX G (c.a.fact 1 (f := .free "len") rfl)) rfl (sndA_cons (snd_var (pe_var (i := 0) rfl (.inl rfl) rfl rfl)) sndA_nil rfl) (by decide) rfl rfl rfl) (snd_var (pe_var (i := 4) rfl (.inl rfl) rfl rfl))) (snd_orT (snd_cmpT (op_neD hr.units) o_ne (by first | rfl | exact nomark _) (snd_callB call_len o_len rfl (free_ok KX G (c.a.fact 1 (f := .free "len") rfl)) rfl (sndA_cons (snd_var (pe_var (i := 1) rfl (.inl rfl) rfl rfl)) sndA_nil rfl) (by decide) rfl rfl rfl) (snd_var (pe_var (i := 4) rfl (.inl rfl) rfl rfl))) (snd_orT1 (snd_cmpT (op_neD hr.units) o_ne (by first | rfl | exact nomark _) (snd_callB call_len o_len rfl (free_ok KX G (c.a.fact 1 (f := .free "len") rfl)) rfl (sndA_cons (snd_var (pe_var (i := 3) rfl (.inl rfl) rfl rfl)) sndA_nil rfl) (by decide) rfl rfl rfl) (snd_var (pe_var (i := 4) rfl (.inl rfl) rfl rfl)))))))) (sndSs_cons (sndS_raise1 (k := 3) PySem.F.excBase_Exception (excB_ok rfl (c.at_ 16 (f := (fun K => excB (cK K).K ((cK K).cls 3))) rfl)) (glo_ok KX G (c.a.fact 72 (f := .glo "WrongWeb") rfl)) rfl rfl (snd_const pe_str (fun _ => Rep.ofStr)) rfl rfl rfl)
 sndSs_nil) sndSs_nil)
 (sndSs_cons (sndS_for (passes_of rfl) rfl (sndI_rng1 rfl (free_ok KX G (c.a.fact 3 (f := .free "range") rfl)) (snd_var (pe_var (i := 4) rfl (.inl rfl) rfl rfl)) rfl) (sndG_name (pg_name (i := 5) nd rfl (.inl rfl) (.inl rfl))) (sndSs_cons (sndS_expr (snd_rv (snd_call (io := false) ((ok__look_stand (Pg := Pg) (w := w) (base := base) KX G c).mono (show 2 ≤ 2 by decide)) hr rfl (glo_ok KX G (c.a.fact 75 (f := .glo "_look_stand") rfl)) (keep_ok (c.a.fact 76 (f := .keep "_look_stand") rfl)) (sndA_cons (snd_var (pe_var (i := 4) rfl (.inl rfl) rfl rfl)) (sndA_cons (snd_ix ix_seq o_ix (fun _ _ => rfl) (snd_var (pe_var (i := 0) rfl (.inl rfl) rfl rfl)) (snd_var (pe_var (i := 5) rfl (.inl rfl) rfl rfl))) (sndA_cons (snd_ix ix_seq o_ix (fun _ _ => rfl) (snd_var (pe_var (i := 1) rfl (.inl rfl) rfl rfl)) (snd_var (pe_var (i := 5) rfl (.inl rfl) rfl rfl))) (sndA_cons (snd_ix ix_seq o_ix (fun _ _ => rfl) (snd_var (pe_var (i := 2) rfl (.inl rfl) rfl rfl)) (snd_var (pe_var (i := 5) rfl (.inl rfl) rfl rfl))) (sndA_cons (snd_ix ix_seq o_ix (fun _ _ => rfl) (snd_var (pe_var (i := 3) rfl (.inl rfl) rfl rfl)) (snd_var (pe_var (i := 5) rfl (.inl rfl) rfl rfl))) sndA_nil rfl) rfl) rfl) rfl) rfl) rfl rfl rfl)) rfl)
 sndSs_nil) (fun _ => rfl))
 (sndSs_cons (sndS_expr (snd_rv (snd_call (io := false) ((ok_need_up_to (Pg := Pg) (w := w) (base := base) KX G c).mono (show 1 ≤ 2 by decide)) hr rfl (glo_ok KX G (c.a.fact 34 (f := .glo "need_up_to") rfl)) (keep_ok (c.a.fact 35 (f := .keep "need_up_to") rfl)) (sndA_cons (snd_var (pe_var (i := 4) rfl (.inl rfl) rfl rfl)) (sndA_cons (let ⟨t, ht⟩ := (int_ok KX G (c.a.fact 60 (f := .int "MOST_STANDS" (60)) rfl)); snd_const (pe_glob (v := .int 60) rfl ht ⟨t, rfl⟩ rfl) (fun _ => Rep.ofInt)) (sndA_cons (snd_const pe_str (fun _ => Rep.ofStr)) sndA_nil rfl) rfl) rfl) rfl rfl rfl)) rfl)
 (sndSs_cons (sndS_for (passes_of rfl) rfl (sndI_seq rfl (snd_var (pe_var (i := 3) rfl (.inl rfl) rfl rfl))) (sndG_name (pg_name (i := 6) nd rfl (.inl rfl) (.inl rfl))) (sndSs_cons (sndS_if (snd_cmpT op_notN o_isNot (by first | rfl | exact nomark _) (snd_var (pe_var (i := 6) rfl (.inl rfl) rfl rfl)) (snd_const pe_non (fun _ => Rep.ofNon))) (sndSs_cons (sndS_expr (snd_rv (snd_call (io := false) ((ok_need_up_to (Pg := Pg) (w := w) (base := base) KX G c).mono (show 1 ≤ 2 by decide)) hr rfl (glo_ok KX G (c.a.fact 34 (f := .glo "need_up_to") rfl)) (keep_ok (c.a.fact 35 (f := .keep "need_up_to") rfl)) (sndA_cons (snd_ix ix_seq o_ix (fun _ _ => rfl) (snd_var (pe_var (i := 6) rfl (.inl rfl) rfl rfl)) (snd_const pe_int (fun _ => Rep.ofInt))) (sndA_cons (let ⟨t, ht⟩ := (int_ok KX G (c.a.fact 77 (f := .int "GREATEST_DUE" (10000000000000000000000000000000000000000)) rfl)); snd_const (pe_glob (v := .int 10000000000000000000000000000000000000000) rfl ht ⟨t, rfl⟩ rfl) (fun _ => Rep.ofInt)) (sndA_cons (snd_const pe_str (fun _ => Rep.ofStr)) sndA_nil rfl) rfl) rfl) rfl rfl rfl)) rfl)
 sndSs_nil) sndSs_nil)
 sndSs_nil) (fun _ => rfl))
 sndSs_nil)))))
theorem ok__look_web (KX : K.In h) (G : h.Ns mainGlobals mg) (c : SaysV fa fn ex K) : FnR Pg w K mg base (L2.CX Pg w) 3 ((d__look_web).at_ K) (SpOf (cK K) g__look_web) := by
  obtain ⟨fd, F⟩ := c.a.def_ 36 (d := d__look_web) rfl
  exact fnR_all (fo__look_web KX G c F) (FunD.bindsN F fun _ _ _ _ _ _ us hl => match us, hl with | [_, _, _, _], _ => rfl)
theorem sc_kept_due : FnScope ["due"] ["due"] (defScope st_kept_due) := ⟨rfl, rfl, rfl, by decide +kernel, rfl, by decide +kernel, by decide +kernel⟩
theorem fo_kept_due (KX : K.In h) (G : h.Ns mainGlobals mg) (c : SaysV fa fn ex K) {fd : FuncData} (F : FunD K "kept_due" "kept_due" (defArgs st_kept_due) (defBody st_kept_due) (defScope st_kept_due) (d_kept_due.dvs K) [] ((d_kept_due).at_ K) fd) : FnOk Pg w K mg base (L2.CX Pg w) 1 ((d_kept_due).at_ K) fd ["due"] (SpOf (cK K) g_kept_due) :=
  fn_def (N := ["due"]) (mb := m_kept_due) F sc_kept_due fun cdv A outer s H E hr => by
  have nd : (["due"] : List Str).Nodup := sc_kept_due.nd
  exact (sndSs_cons (sndS_ret (snd_if (snd_cmpT op_isN o_is (by first | rfl | exact nomark _) (snd_var (pe_var (i := 0) rfl (.inl rfl) rfl rfl)) (snd_const pe_non (fun _ => Rep.ofNon))) (snd_const pe_non (fun _ => Rep.ofNon)) (snd_tup (sndA_cons (snd_ix ix_seq o_ix (fun _ _ => rfl) (snd_var (pe_var (i := 0) rfl (.inl rfl) rfl rfl)) (snd_const pe_int (fun _ => Rep.ofInt))) (sndA_cons (snd_ix ix_seq o_ix (fun _ _ => rfl) (snd_var (pe_var (i := 0) rfl (.inl rfl) rfl rfl)) (snd_const pe_int (fun _ => Rep.ofInt))) sndA_nil rfl) rfl))))
 sndSs_nil)
theorem ok_kept_due (KX : K.In h) (G : h.Ns mainGlobals mg) (c : SaysV fa fn ex K) : FnR Pg w K mg base (L2.CX Pg w) 1 ((d_kept_due).at_ K) (SpOf (cK K) g_kept_due) := by
  obtain ⟨fd, F⟩ := c.a.def_ 37 (d := d_kept_due) rfl
  exact fnR_all (fo_kept_due KX G c F) (FunD.bindsN F fun _ _ _ _ _ _ us hl => match us, hl with | [_], _ => rfl)
theorem sc_Web____init__ : FnScope ["self", "first", "second", "marks", "dues", "web_steps", "web_due", "web_at"] ["self", "first", "second", "marks", "dues"] (defScope st_Web____init__) := ⟨rfl, rfl, rfl, by decide +kernel, rfl, by decide +kernel, by decide +kernel⟩
theorem fo_Web____init__ (KX : K.In h) (G : h.Ns mainGlobals mg) (c : SaysV fa fn ex K) {fd : FuncData} (F : FunD K "__init__" "Web.__init__" (defArgs st_Web____init__) (defBody st_Web____init__) (defScope st_Web____init__) (d_Web____init__.dvs K) [] ((d_Web____init__).at_ K) fd) : FnOk Pg w K mg base (L2.CX Pg w) 5 ((d_Web____init__).at_ K) fd ["self", "first", "second", "marks", "dues"] (SpOf (cK K) g_Web____init__) :=
  fn_def (N := ["self", "first", "second", "marks", "dues", "web_steps", "web_due", "web_at"]) (mb := m_Web____init__) F sc_Web____init__ fun cdv A outer s H E hr => by
  have nd : (["self", "first", "second", "marks", "dues", "web_steps", "web_due", "web_at"] : List Str).Nodup := sc_Web____init__.nd
  exact (sndSs_cons (sndS_expr (snd_rv (snd_call (io := false) ((ok__look_kinds (Pg := Pg) (w := w) (base := base) KX G c).mono (show 4 ≤ 4 by decide)) hr rfl (glo_ok KX G (c.a.fact 70 (f := .glo "_look_kinds") rfl)) (keep_ok (c.a.fact 71 (f := .keep "_look_kinds") rfl)) (sndA_cons (snd_var (pe_var (i := 1) rfl (.inr (.inl rfl)) rfl rfl)) (sndA_cons (snd_var (pe_var (i := 2) rfl (.inl rfl) rfl rfl)) (sndA_cons (snd_var (pe_var (i := 3) rfl (.inl rfl) rfl rfl)) (sndA_cons (snd_var (pe_var (i := 4) rfl (.inl rfl) rfl rfl)) sndA_nil rfl) rfl) rfl) rfl) rfl rfl rfl)) rfl)
 (sndSs_cons (sndS_expr (snd_rv (snd_call (io := false) ((ok__look_web (Pg := Pg) (w := w) (base := base) KX G c).mono (show 3 ≤ 4 by decide)) hr rfl (glo_ok KX G (c.a.fact 78 (f := .glo "_look_web") rfl)) (keep_ok (c.a.fact 79 (f := .keep "_look_web") rfl)) (sndA_cons (snd_var (pe_var (i := 1) rfl (.inr (.inl rfl)) rfl rfl)) (sndA_cons (snd_var (pe_var (i := 2) rfl (.inl rfl) rfl rfl)) (sndA_cons (snd_var (pe_var (i := 3) rfl (.inl rfl) rfl rfl)) (sndA_cons (snd_var (pe_var (i := 4) rfl (.inl rfl) rfl rfl)) sndA_nil rfl) rfl) rfl) rfl) rfl rfl rfl)) rfl)
 (sndSs_cons (sndS_fld (sclsB_ok (c.at_ 4 (f := (fun K => sclsB K (ga K "Web"))) rfl)) (slot1B_ok (c.at_ 12 (f := (fun K => slot1B K (ga K "Web") "_first" 2)) rfl)) (pe_var (i := 0) rfl (.inl rfl) rfl rfl) (snd_callTy call_tuple_of o_tuple rfl (free_ok KX G (c.a.fact 39 (f := .free "tuple") rfl)) rfl (sndA_cons (snd_frzF (sndF_comp (own := [("web_steps", 5)]) rfl nd (sndI_seq rfl (snd_var (pe_var (i := 1) rfl (.inr (.inl rfl)) rfl rfl))) (blkB_ok (N := ["self", "first", "second", "marks", "dues", "web_steps", "web_due", "web_at"]) (sc := defScope st_Web____init__) rfl (by decide +kernel)) (fun _ _ _ _ _ => (sndG_name (pg_name (i := 5) nd rfl (.inl rfl) (.inr rfl)))) (fun _ _ _ _ _ => sndTs_nil) (fun _ _ _ _ _ => (snd_callTy call_tuple_of o_tuple rfl (free_ok KX G (c.a.fact 39 (f := .free "tuple") rfl)) rfl (sndA_cons (snd_frzF (sndF_sortedSet rfl rfl rfl (free_ok KX G (c.a.fact 80 (f := .free "sorted") rfl)) rfl (free_ok KX G (c.a.fact 81 (f := .free "set") rfl)) (snd_var (pe_var (i := 5) rfl (.inl rfl) rfl rfl)) rfl rfl rfl rfl)) sndA_nil rfl) (by decide) rfl rfl rfl)) (fun _ => rfl))) sndA_nil rfl) (by decide) rfl rfl rfl) rfl)
 (sndSs_cons (sndS_fld (sclsB_ok (c.at_ 4 (f := (fun K => sclsB K (ga K "Web"))) rfl)) (slot1B_ok (c.at_ 14 (f := (fun K => slot1B K (ga K "Web") "_second" 6)) rfl)) (pe_var (i := 0) rfl (.inl rfl) rfl rfl) (snd_callTy call_tuple_of o_tuple rfl (free_ok KX G (c.a.fact 39 (f := .free "tuple") rfl)) rfl (sndA_cons (snd_frzF (sndF_comp (own := [("web_steps", 5)]) rfl nd (sndI_seq rfl (snd_var (pe_var (i := 2) rfl (.inl rfl) rfl rfl))) (blkB_ok (N := ["self", "first", "second", "marks", "dues", "web_steps", "web_due", "web_at"]) (sc := defScope st_Web____init__) rfl (by decide +kernel)) (fun _ _ _ _ _ => (sndG_name (pg_name (i := 5) nd rfl (.inl rfl) (.inr rfl)))) (fun _ _ _ _ _ => sndTs_nil) (fun _ _ _ _ _ => (snd_callTy call_tuple_of o_tuple rfl (free_ok KX G (c.a.fact 39 (f := .free "tuple") rfl)) rfl (sndA_cons (snd_frzF (sndF_sortedSet rfl rfl rfl (free_ok KX G (c.a.fact 80 (f := .free "sorted") rfl)) rfl (free_ok KX G (c.a.fact 81 (f := .free "set") rfl)) (snd_var (pe_var (i := 5) rfl (.inl rfl) rfl rfl)) rfl rfl rfl rfl)) sndA_nil rfl) (by decide) rfl rfl rfl)) (fun _ => rfl))) sndA_nil rfl) (by decide) rfl rfl rfl) rfl)
 (sndSs_cons (sndS_fld (sclsB_ok (c.at_ 4 (f := (fun K => sclsB K (ga K "Web"))) rfl)) (slot1B_ok (c.at_ 10 (f := (fun K => slot1B K (ga K "Web") "_marks" 4)) rfl)) (pe_var (i := 0) rfl (.inl rfl) rfl rfl) (snd_callTy call_tuple_of o_tuple rfl (free_ok KX G (c.a.fact 39 (f := .free "tuple") rfl)) rfl (sndA_cons (snd_var (pe_var (i := 3) rfl (.inl rfl) rfl rfl)) sndA_nil rfl) (by decide) rfl rfl rfl) rfl)
 (sndSs_cons (sndS_fld (sclsB_ok (c.at_ 4 (f := (fun K => sclsB K (ga K "Web"))) rfl)) (slot1B_ok (c.at_ 5 (f := (fun K => slot1B K (ga K "Web") "_dues" 0)) rfl)) (pe_var (i := 0) rfl (.inl rfl) rfl rfl) (snd_callTy call_tuple_of o_tuple rfl (free_ok KX G (c.a.fact 39 (f := .free "tuple") rfl)) rfl (sndA_cons (snd_frzF (sndF_comp (own := [("web_due", 6)]) rfl nd (sndI_seq rfl (snd_var (pe_var (i := 4) rfl (.inl rfl) rfl rfl))) (blkB_ok (N := ["self", "first", "second", "marks", "dues", "web_steps", "web_due", "web_at"]) (sc := defScope st_Web____init__) rfl (by decide +kernel)) (fun _ _ _ _ _ => (sndG_name (pg_name (i := 6) nd rfl (.inl rfl) (.inr rfl)))) (fun _ _ _ _ _ => sndTs_nil) (fun _ _ _ _ _ => (snd_rv (snd_call (io := false) ((ok_kept_due (Pg := Pg) (w := w) (base := base) KX G c).mono (show 1 ≤ 4 by decide)) hr rfl (glo_ok KX G (c.a.fact 82 (f := .glo "kept_due") rfl)) (keep_ok (c.a.fact 83 (f := .keep "kept_due") rfl)) (sndA_cons (snd_var (pe_var (i := 6) rfl (.inl rfl) rfl rfl)) sndA_nil rfl) rfl rfl rfl))) (fun _ => rfl))) sndA_nil rfl) (by decide) rfl rfl rfl) rfl)
 (sndSs_cons (sndS_fld (sclsB_ok (c.at_ 4 (f := (fun K => sclsB K (ga K "Web"))) rfl)) (slot1B_ok (c.at_ 17 (f := (fun K => slot1B K (ga K "Web") "_ends" 1)) rfl)) (pe_var (i := 0) rfl (.inl rfl) rfl rfl) (snd_callTy call_tuple_of o_tuple rfl (free_ok KX G (c.a.fact 39 (f := .free "tuple") rfl)) rfl (sndA_cons (snd_frzF (sndF_comp (own := [("web_at", 7)]) rfl nd (sndI_rng1 rfl (free_ok KX G (c.a.fact 3 (f := .free "range") rfl)) (snd_callB call_len o_len rfl (free_ok KX G (c.a.fact 1 (f := .free "len") rfl)) rfl (sndA_cons (snd_var (pe_var (i := 3) rfl (.inl rfl) rfl rfl)) sndA_nil rfl) (by decide) rfl rfl rfl) rfl) (blkB_ok (N := ["self", "first", "second", "marks", "dues", "web_steps", "web_due", "web_at"]) (sc := defScope st_Web____init__) rfl (by decide +kernel)) (fun _ _ _ _ _ => (sndG_name (pg_name (i := 7) nd rfl (.inl rfl) (.inr rfl)))) (fun _ _ _ _ _ => (sndTs_one (snd_notT (snd_truth rfl (fun _ => rfl) (snd_ix ix_seq o_ix (fun _ _ => rfl) (snd_var (pe_var (i := 1) rfl (.inr (.inl rfl)) rfl rfl)) (snd_var (pe_var (i := 7) rfl (.inl rfl) rfl rfl))))))) (fun _ _ _ _ _ => (snd_var (pe_var (i := 7) rfl (.inl rfl) rfl rfl))) (fun _ => rfl))) sndA_nil rfl) (by decide) rfl rfl rfl) rfl)
 (sndSs_cons (sndS_fld (sclsB_ok (c.at_ 4 (f := (fun K => sclsB K (ga K "Web"))) rfl)) (slot1B_ok (c.at_ 18 (f := (fun K => slot1B K (ga K "Web") "_moving" 5)) rfl)) (pe_var (i := 0) rfl (.inl rfl) rfl rfl) (snd_callTy call_tuple_of o_tuple rfl (free_ok KX G (c.a.fact 39 (f := .free "tuple") rfl)) rfl (sndA_cons (snd_frzF (sndF_comp (own := [("web_at", 7)]) rfl nd (sndI_rng1 rfl (free_ok KX G (c.a.fact 3 (f := .free "range") rfl)) (snd_callB call_len o_len rfl (free_ok KX G (c.a.fact 1 (f := .free "len") rfl)) rfl (sndA_cons (snd_var (pe_var (i := 3) rfl (.inl rfl) rfl rfl)) sndA_nil rfl) (by decide) rfl rfl rfl) rfl) (blkB_ok (N := ["self", "first", "second", "marks", "dues", "web_steps", "web_due", "web_at"]) (sc := defScope st_Web____init__) rfl (by decide +kernel)) (fun _ _ _ _ _ => (sndG_name (pg_name (i := 7) nd rfl (.inl rfl) (.inr rfl)))) (fun _ _ _ _ _ => (sndTs_one (snd_truth rfl (fun _ => rfl) (snd_ix ix_seq o_ix (fun _ _ => rfl) (snd_var (pe_var (i := 1) rfl (.inr (.inl rfl)) rfl rfl)) (snd_var (pe_var (i := 7) rfl (.inl rfl) rfl rfl)))))) (fun _ _ _ _ _ => (snd_var (pe_var (i := 7) rfl (.inl rfl) rfl rfl))) (fun _ => rfl))) sndA_nil rfl) (by decide) rfl rfl rfl) rfl)
 (sndSs_cons (sndS_fld (sclsB_ok (c.at_ 4 (f := (fun K => sclsB K (ga K "Web"))) rfl)) (slot1B_ok (c.at_ 7 (f := (fun K => slot1B K (ga K "Web") "_greatest_due" 3)) rfl)) (pe_var (i := 0) rfl (.inl rfl) rfl rfl) (snd_callB (h_max rfl) o_max rfl (free_ok KX G (c.a.fact 12 (f := .free "max") rfl)) rfl (sndA_cons (snd_frzF (sndF_bin op_cat o_cat (snd_frzF (sndF_lst (sndA_cons (snd_const pe_int (fun _ => Rep.ofInt)) sndA_nil rfl))) (snd_frzF (sndF_comp (own := [("web_due", 6)]) rfl nd (sndI_seq rfl (snd_self (sclsB_ok (c.at_ 4 (f := (fun K => sclsB K (ga K "Web"))) rfl)) (slot1B_ok (c.at_ 5 (f := (fun K => slot1B K (ga K "Web") "_dues" 0)) rfl)) (pe_var (i := 0) rfl (.inl rfl) rfl rfl) rfl)) (blkB_ok (N := ["self", "first", "second", "marks", "dues", "web_steps", "web_due", "web_at"]) (sc := defScope st_Web____init__) rfl (by decide +kernel)) (fun _ _ _ _ _ => (sndG_name (pg_name (i := 6) nd rfl (.inl rfl) (.inr rfl)))) (fun _ _ _ _ _ => (sndTs_one (snd_cmpT op_notN o_isNot (by first | rfl | exact nomark _) (snd_var (pe_var (i := 6) rfl (.inl rfl) rfl rfl)) (snd_const pe_non (fun _ => Rep.ofNon))))) (fun _ _ _ _ _ => (snd_ix ix_seq o_ix (fun _ _ => rfl) (snd_var (pe_var (i := 6) rfl (.inl rfl) rfl rfl)) (snd_const pe_int (fun _ => Rep.ofInt)))) (fun _ => rfl))))) sndA_nil rfl) (by decide) rfl rfl rfl) rfl)
 sndSs_nil)))))))))
theorem ok_Web____init__ (KX : K.In h) (G : h.Ns mainGlobals mg) (c : SaysV fa fn ex K) : FnR Pg w K mg base (L2.CX Pg w) 5 ((d_Web____init__).at_ K) (SpOf (cK K) g_Web____init__) := by
  obtain ⟨fd, F⟩ := c.a.def_ 38 (d := d_Web____init__) rfl
  exact fnR_all (fo_Web____init__ KX G c F) (FunD.bindsN F fun _ _ _ _ _ _ us hl => match us, hl with | [_, _, _, _, _], _ => rfl)
theorem sc_Web__line : FnScope ["cls", "n", "mark", "steps", "at"] ["cls", "n", "mark"] (defScope st_Web__line) := ⟨rfl, rfl, rfl, by decide +kernel, rfl, by decide +kernel, by decide +kernel⟩
theorem fo_Web__line (KX : K.In h) (G : h.Ns mainGlobals mg) (c : SaysV fa fn ex K) {fd : FuncData} (F : FunD K "line" "Web.line" (defArgs st_Web__line) (defBody st_Web__line) (defScope st_Web__line) (d_Web__line.dvs K) [] ((d_Web__line).at_ K) fd) : FnOk Pg w K mg base (L2.CX Pg w) 7 ((d_Web__line).at_ K) fd ["cls", "n", "mark"] (SpOf (cK K) g_Web__line) :=
  fn_def (N := ["cls", "n", "mark", "steps", "at"]) (mb := m_Web__line) F sc_Web__line fun cdv A outer s H E hr => by
  have nd : (["cls", "n", "mark", "steps", "at"] : List Str).Nodup := sc_Web__line.nd
  exact (sndSs_cons (sndS_expr (snd_rv (snd_call (io := false) ((ok_need_made (Pg := Pg) (w := w) (base := base) KX G c).mono (show 3 ≤ 6 by decide)) hr rfl (glo_ok KX G (c.a.fact 61 (f := .glo "need_made") rfl)) (keep_ok (c.a.fact 62 (f := .keep "need_made") rfl)) (sndA_cons (snd_var (pe_var (i := 1) rfl (.inl rfl) rfl rfl)) (sndA_cons (snd_var (pe_var (i := 2) rfl (.inl rfl) rfl rfl)) (sndA_cons (snd_bin op_sub o_sub (let ⟨t, ht⟩ := (int_ok KX G (c.a.fact 60 (f := .int "MOST_STANDS" (60)) rfl)); snd_const (pe_glob (v := .int 60) rfl ht ⟨t, rfl⟩ rfl) (fun _ => Rep.ofInt)) (snd_const pe_int (fun _ => Rep.ofInt))) sndA_nil rfl) rfl) rfl) rfl rfl rfl)) rfl)
 (sndSs_cons (sndS_asg (noExc_name 3) (snd_frzF (sndF_bin op_cat o_cat (snd_frzF (sndF_bin op_cat o_cat (snd_frzF (sndF_lst (sndA_cons (snd_frzF (sndF_lst sndA_nil)) sndA_nil rfl))) (snd_frzF (sndF_comp (own := [("at", 4)]) rfl nd (sndI_rng2 rfl (free_ok KX G (c.a.fact 3 (f := .free "range") rfl)) (snd_const pe_int (fun _ => Rep.ofInt)) (snd_var (pe_var (i := 1) rfl (.inl rfl) rfl rfl)) rfl rfl rfl) (blkB_ok (N := ["cls", "n", "mark", "steps", "at"]) (sc := defScope st_Web__line) rfl (by decide +kernel)) (fun _ _ _ _ _ => (sndG_name (pg_name (i := 4) nd rfl (.inl rfl) (.inr rfl)))) (fun _ _ _ _ _ => sndTs_nil) (fun _ _ _ _ _ => (snd_frzF (sndF_lst (sndA_cons (snd_bin op_sub o_sub (snd_var (pe_var (i := 4) rfl (.inl rfl) rfl rfl)) (snd_const pe_int (fun _ => Rep.ofInt))) (sndA_cons (snd_bin h_add o_add (snd_var (pe_var (i := 4) rfl (.inl rfl) rfl rfl)) (snd_const pe_int (fun _ => Rep.ofInt))) sndA_nil rfl) rfl)))) (fun _ => rfl))))) (snd_frzF (sndF_lst (sndA_cons (snd_frzF (sndF_lst sndA_nil)) sndA_nil rfl))))) (sndG_name (pg_name (i := 3) nd rfl (.inl rfl) (.inl rfl))) rfl rfl rfl)
 (sndSs_cons (sndS_ret (snd_makeL (mkr_ok (c.a.fact 84 (f := .mkr "Web") rfl)) ((ok_Web____init__ (Pg := Pg) (w := w) (base := base) KX G c).mono (show 5 ≤ 5 by decide)) hr rfl (.inl rfl) (sndA_cons (snd_var (pe_var (i := 3) rfl (.inl rfl) rfl rfl)) (sndA_cons (snd_var (pe_var (i := 3) rfl (.inl rfl) rfl rfl)) (sndA_cons (snd_frzF (sndF_bin op_rep o_rep (snd_frzF (sndF_lst (sndA_cons (snd_var (pe_var (i := 2) rfl (.inl rfl) rfl rfl)) sndA_nil rfl))) (snd_bin h_add o_add (snd_var (pe_var (i := 1) rfl (.inl rfl) rfl rfl)) (snd_const pe_int (fun _ => Rep.ofInt))))) (sndA_cons (snd_frzF (sndF_bin op_cat o_cat (snd_frzF (sndF_lst (sndA_cons (snd_tup (sndA_cons (snd_const pe_str (fun _ => Rep.ofStr)) (sndA_cons (snd_const pe_int (fun _ => Rep.ofInt)) sndA_nil rfl) rfl)) sndA_nil rfl))) (snd_frzF (sndF_bin op_rep o_rep (snd_frzF (sndF_lst (sndA_cons (snd_const pe_non (fun _ => Rep.ofNon)) sndA_nil rfl))) (snd_var (pe_var (i := 1) rfl (.inl rfl) rfl rfl)))))) sndA_nil rfl) rfl) rfl) rfl) rfl rfl rfl rfl))
 sndSs_nil)))
theorem ok_Web__line (KX : K.In h) (G : h.Ns mainGlobals mg) (c : SaysV fa fn ex K) : FnR Pg w K mg base (L2.CX Pg w) 7 ((d_Web__line).at_ K) (SpOf (cK K) g_Web__line) := by
  obtain ⟨fd, F⟩ := c.a.def_ 39 (d := d_Web__line) rfl
  have b := FunD.binds1 (ps := ["cls", "n", "mark"]) F 3 1 (by intro z; cases z) rfl fun _ _ _ _ _ _ _ us its hl hi => match us, hl, its, hi with | [_, _, _], _, [_], _ => ⟨_, rfl, rfl⟩
  exact (fnR_of (ds := []) (dvs := []) (fo_Web__line KX G c F) (fun P => Reps.nil) b).imp fun vs H Q E h => by
    obtain ⟨s, as, P, ad, dx, h1, h2, h3⟩ := h
    exact ⟨s, as, P, ad, dx, h1, h2, by unfold defv; rw [List.append_nil]; exact h3⟩
theorem sc_golden_root : FnScope ["number", "root", "better"] ["number"] (defScope st_golden_root) := ⟨rfl, rfl, rfl, by decide +kernel, rfl, by decide +kernel, by decide +kernel⟩
theorem fo_golden_root (KX : K.In h) (G : h.Ns mainGlobals mg) (c : SaysV fa fn ex K) {fd : FuncData} (F : FunD K "golden_root" "golden_root" (defArgs st_golden_root) (defBody st_golden_root) (defScope st_golden_root) (d_golden_root.dvs K) [] ((d_golden_root).at_ K) fd) : FnOk Pg w K mg base (L2.CX Pg w) 1 ((d_golden_root).at_ K) fd ["number"] (SpOf (cK K) g_golden_root) :=
  fn_def (N := ["number", "root", "better"]) (mb := m_golden_root) F sc_golden_root fun cdv A outer s H E hr => by
  have nd : (["number", "root", "better"] : List Str).Nodup := sc_golden_root.nd
  exact (sndSs_cons (sndS_if (snd_cmpT (op_eqD hr.units) o_eq (by first | rfl | exact nomark _) (snd_var (pe_var (i := 0) rfl (.inl rfl) rfl rfl)) (snd_const pe_int (fun _ => Rep.ofInt))) (sndSs_cons (sndS_ret (snd_const pe_int (fun _ => Rep.ofInt)))
 sndSs_nil) sndSs_nil)
 (sndSs_cons (sndS_asg (noExc_name 1) (snd_bin op_shl o_shl (snd_const pe_int (fun _ => Rep.ofInt)) (snd_bin op_fdivW o_div (snd_bin h_add o_add (snd_bits (snd_var (pe_var (i := 0) rfl (.inl rfl) rfl rfl)) rfl rfl) (snd_const pe_int (fun _ => Rep.ofInt))) (snd_const pe_int (fun _ => Rep.ofInt)))) (sndG_name (pg_name (i := 1) nd rfl (.inl rfl) (.inl rfl))) rfl rfl rfl)
 (sndSs_cons (sndS_asg (noExc_name 2) (snd_bin op_fdivW o_div (snd_bin h_add o_add (snd_var (pe_var (i := 1) rfl (.inl rfl) rfl rfl)) (snd_bin op_fdivW o_div (snd_var (pe_var (i := 0) rfl (.inl rfl) rfl rfl)) (snd_var (pe_var (i := 1) rfl (.inl rfl) rfl rfl)))) (snd_const pe_int (fun _ => Rep.ofInt))) (sndG_name (pg_name (i := 2) nd rfl (.inl rfl) (.inl rfl))) rfl rfl rfl)
 (sndSs_cons (sndS_while 600 (passes_of rfl) (snd_cmpT op_lt o_lt (by first | rfl | exact nomark _) (snd_var (pe_var (i := 2) rfl (.inl rfl) rfl rfl)) (snd_var (pe_var (i := 1) rfl (.inl rfl) rfl rfl))) (sndSs_cons (sndS_asg (noExc_name 1) (snd_var (pe_var (i := 2) rfl (.inl rfl) rfl rfl)) (sndG_name (pg_name (i := 1) nd rfl (.inl rfl) (.inl rfl))) rfl rfl rfl)
 (sndSs_cons (sndS_asg (noExc_name 2) (snd_bin op_fdivW o_div (snd_bin h_add o_add (snd_var (pe_var (i := 1) rfl (.inl rfl) rfl rfl)) (snd_bin op_fdivW o_div (snd_var (pe_var (i := 0) rfl (.inl rfl) rfl rfl)) (snd_var (pe_var (i := 1) rfl (.inl rfl) rfl rfl)))) (snd_const pe_int (fun _ => Rep.ofInt))) (sndG_name (pg_name (i := 2) nd rfl (.inl rfl) (.inl rfl))) rfl rfl rfl)
 sndSs_nil)))
 (sndSs_cons (sndS_ret (snd_var (pe_var (i := 1) rfl (.inl rfl) rfl rfl)))
 sndSs_nil)))))
theorem ok_golden_root (KX : K.In h) (G : h.Ns mainGlobals mg) (c : SaysV fa fn ex K) : FnR Pg w K mg base (L2.CX Pg w) 1 ((d_golden_root).at_ K) (SpOf (cK K) g_golden_root) := by
  obtain ⟨fd, F⟩ := c.a.def_ 40 (d := d_golden_root) rfl
  exact fnR_all (fo_golden_root KX G c F) (FunD.bindsN F fun _ _ _ _ _ _ us hl => match us, hl with | [_], _ => rfl)
theorem sc_golden_base : FnScope ["b"] ["b"] (defScope st_golden_base) := ⟨rfl, rfl, rfl, by decide +kernel, rfl, by decide +kernel, by decide +kernel⟩
theorem fo_golden_base (KX : K.In h) (G : h.Ns mainGlobals mg) (c : SaysV fa fn ex K) {fd : FuncData} (F : FunD K "golden_base" "golden_base" (defArgs st_golden_base) (defBody st_golden_base) (defScope st_golden_base) (d_golden_base.dvs K) [] ((d_golden_base).at_ K) fd) : FnOk Pg w K mg base (L2.CX Pg w) 2 ((d_golden_base).at_ K) fd ["b"] (SpOf (cK K) g_golden_base) :=
  fn_def (N := ["b"]) (mb := m_golden_base) F sc_golden_base fun cdv A outer s H E hr => by
  have nd : (["b"] : List Str).Nodup := sc_golden_base.nd
  exact (sndSs_cons (sndS_ret (snd_bin op_fdivW o_div (snd_bin op_sub o_sub (snd_rv (snd_call (io := false) ((ok_golden_root (Pg := Pg) (w := w) (base := base) KX G c).mono (show 1 ≤ 1 by decide)) hr rfl (glo_ok KX G (c.a.fact 88 (f := .glo "golden_root") rfl)) (keep_ok (c.a.fact 89 (f := .keep "golden_root") rfl)) (sndA_cons (snd_bin h_mul o_mul (snd_bin h_mul o_mul (snd_const pe_int (fun _ => Rep.ofInt)) (snd_var (pe_var (i := 0) rfl (.inl rfl) rfl rfl))) (snd_var (pe_var (i := 0) rfl (.inl rfl) rfl rfl))) sndA_nil rfl) rfl rfl rfl)) (snd_var (pe_var (i := 0) rfl (.inl rfl) rfl rfl))) (snd_const pe_int (fun _ => Rep.ofInt))))
 sndSs_nil)
theorem ok_golden_base (KX : K.In h) (G : h.Ns mainGlobals mg) (c : SaysV fa fn ex K) : FnR Pg w K mg base (L2.CX Pg w) 2 ((d_golden_base).at_ K) (SpOf (cK K) g_golden_base) := by
  obtain ⟨fd, F⟩ := c.a.def_ 41 (d := d_golden_base) rfl
  exact fnR_all (fo_golden_base KX G c F) (FunD.bindsN F fun _ _ _ _ _ _ us hl => match us, hl with | [_], _ => rfl)
theorem sc_golden_number : FnScope ["mark", "b", "stand", "number"] ["mark", "b", "stand"] (defScope st_golden_number) := ⟨rfl, rfl, rfl, by decide +kernel, rfl, by decide +kernel, by decide +kernel⟩
theorem fo_golden_number (KX : K.In h) (G : h.Ns mainGlobals mg) (c : SaysV fa fn ex K) {fd : FuncData} (F : FunD K "golden_number" "golden_number" (defArgs st_golden_number) (defBody st_golden_number) (defScope st_golden_number) (d_golden_number.dvs K) [] ((d_golden_number).at_ K) fd) : FnOk Pg w K mg base (L2.CX Pg w) 3 ((d_golden_number).at_ K) fd ["mark", "b", "stand"] (SpOf (cK K) g_golden_number) :=
  fn_def (N := ["mark", "b", "stand", "number"]) (mb := m_golden_number) F sc_golden_number fun cdv A outer s H E hr => by
  have nd : (["mark", "b", "stand", "number"] : List Str).Nodup := sc_golden_number.nd
  exact (sndSs_cons (sndS_expr (snd_rv (snd_call (io := false) ((ok_need_integer (Pg := Pg) (w := w) (base := base) KX G c).mono (show 2 ≤ 2 by decide)) hr rfl (glo_ok KX G (c.a.fact 27 (f := .glo "need_integer") rfl)) (keep_ok (c.a.fact 28 (f := .keep "need_integer") rfl)) (sndA_cons (snd_var (pe_var (i := 0) rfl (.inl rfl) rfl rfl)) (sndA_cons (snd_const pe_str (fun _ => Rep.ofStr)) sndA_nil rfl) rfl) rfl rfl rfl)) rfl)
 (sndSs_cons (sndS_expr (snd_rv (snd_call (io := false) ((ok_need_integer (Pg := Pg) (w := w) (base := base) KX G c).mono (show 2 ≤ 2 by decide)) hr rfl (glo_ok KX G (c.a.fact 27 (f := .glo "need_integer") rfl)) (keep_ok (c.a.fact 28 (f := .keep "need_integer") rfl)) (sndA_cons (snd_var (pe_var (i := 1) rfl (.inl rfl) rfl rfl)) (sndA_cons (snd_const pe_str (fun _ => Rep.ofStr)) sndA_nil rfl) rfl) rfl rfl rfl)) rfl)
 (sndSs_cons (sndS_expr (snd_rv (snd_call (io := false) ((ok_need_integer (Pg := Pg) (w := w) (base := base) KX G c).mono (show 2 ≤ 2 by decide)) hr rfl (glo_ok KX G (c.a.fact 27 (f := .glo "need_integer") rfl)) (keep_ok (c.a.fact 28 (f := .keep "need_integer") rfl)) (sndA_cons (snd_var (pe_var (i := 2) rfl (.inl rfl) rfl rfl)) (sndA_cons (snd_const pe_str (fun _ => Rep.ofStr)) sndA_nil rfl) rfl) rfl rfl rfl)) rfl)
 (sndSs_cons (sndS_expr (snd_rv (snd_call (io := false) ((ok_need_between (Pg := Pg) (w := w) (base := base) KX G c).mono (show 1 ≤ 2 by decide)) hr rfl (glo_ok KX G (c.a.fact 58 (f := .glo "need_between") rfl)) (keep_ok (c.a.fact 59 (f := .keep "need_between") rfl)) (sndA_cons (snd_var (pe_var (i := 0) rfl (.inl rfl) rfl rfl)) (sndA_cons (snd_const pe_int (fun _ => Rep.ofInt)) (sndA_cons (snd_const pe_int (fun _ => Rep.ofInt)) (sndA_cons (snd_const pe_str (fun _ => Rep.ofStr)) sndA_nil rfl) rfl) rfl) rfl) rfl rfl rfl)) rfl)
 (sndSs_cons (sndS_expr (snd_rv (snd_call (io := false) ((ok_need_from (Pg := Pg) (w := w) (base := base) KX G c).mono (show 1 ≤ 2 by decide)) hr rfl (glo_ok KX G (c.a.fact 30 (f := .glo "need_from") rfl)) (keep_ok (c.a.fact 31 (f := .keep "need_from") rfl)) (sndA_cons (snd_var (pe_var (i := 1) rfl (.inl rfl) rfl rfl)) (sndA_cons (snd_const pe_int (fun _ => Rep.ofInt)) (sndA_cons (snd_const pe_str (fun _ => Rep.ofStr)) sndA_nil rfl) rfl) rfl) rfl rfl rfl)) rfl)
 (sndSs_cons (sndS_expr (snd_rv (snd_call (io := false) ((ok_need_between (Pg := Pg) (w := w) (base := base) KX G c).mono (show 1 ≤ 2 by decide)) hr rfl (glo_ok KX G (c.a.fact 58 (f := .glo "need_between") rfl)) (keep_ok (c.a.fact 59 (f := .keep "need_between") rfl)) (sndA_cons (snd_var (pe_var (i := 2) rfl (.inl rfl) rfl rfl)) (sndA_cons (snd_const pe_int (fun _ => Rep.ofInt)) (sndA_cons (snd_const pe_int (fun _ => Rep.ofInt)) (sndA_cons (snd_const pe_str (fun _ => Rep.ofStr)) sndA_nil rfl) rfl) rfl) rfl) rfl rfl rfl)) rfl)
 (sndSs_cons (sndS_expr (snd_rv (snd_call (io := false) ((ok_need_up_to (Pg := Pg) (w := w) (base := base) KX G c).mono (show 1 ≤ 2 by decide)) hr rfl (glo_ok KX G (c.a.fact 34 (f := .glo "need_up_to") rfl)) (keep_ok (c.a.fact 35 (f := .keep "need_up_to") rfl)) (sndA_cons (snd_var (pe_var (i := 1) rfl (.inl rfl) rfl rfl)) (sndA_cons (let ⟨t, ht⟩ := (int_ok KX G (c.a.fact 87 (f := .int "FAR_CHIPS" (10000000000000000000000000000000000000000)) rfl)); snd_const (pe_glob (v := .int 10000000000000000000000000000000000000000) rfl ht ⟨t, rfl⟩ rfl) (fun _ => Rep.ofInt)) (sndA_cons (snd_const pe_str (fun _ => Rep.ofStr)) sndA_nil rfl) rfl) rfl) rfl rfl rfl)) rfl)
 (sndSs_cons (sndS_if (snd_cmpT (op_eqD hr.units) o_eq (by first | rfl | exact nomark _) (snd_var (pe_var (i := 0) rfl (.inl rfl) rfl rfl)) (snd_const pe_int (fun _ => Rep.ofInt))) (sndSs_cons (sndS_asg (noExc_name 3) (snd_rv (snd_call (io := false) ((ok_golden_base (Pg := Pg) (w := w) (base := base) KX G c).mono (show 2 ≤ 2 by decide)) hr rfl (glo_ok KX G (c.a.fact 90 (f := .glo "golden_base") rfl)) (keep_ok (c.a.fact 91 (f := .keep "golden_base") rfl)) (sndA_cons (snd_var (pe_var (i := 1) rfl (.inl rfl) rfl rfl)) sndA_nil rfl) rfl rfl rfl)) (sndG_name (pg_name (i := 3) nd rfl (.inl rfl) (.inl rfl))) rfl rfl rfl)
 (sndSs_cons (sndS_ret (snd_if (snd_cmpT (op_eqD hr.units) o_eq (by first | rfl | exact nomark _) (snd_var (pe_var (i := 2) rfl (.inl rfl) rfl rfl)) (snd_const pe_int (fun _ => Rep.ofInt))) (snd_var (pe_var (i := 3) rfl (.inl rfl) rfl rfl)) (snd_bin h_add o_add (snd_var (pe_var (i := 1) rfl (.inl rfl) rfl rfl)) (snd_var (pe_var (i := 3) rfl (.inl rfl) rfl rfl)))))
 sndSs_nil)) sndSs_nil)
 (sndSs_cons (sndS_asg (noExc_name 3) (snd_bin h_add o_add (snd_rv (snd_call (io := false) ((ok_golden_base (Pg := Pg) (w := w) (base := base) KX G c).mono (show 2 ≤ 2 by decide)) hr rfl (glo_ok KX G (c.a.fact 90 (f := .glo "golden_base") rfl)) (keep_ok (c.a.fact 91 (f := .keep "golden_base") rfl)) (sndA_cons (snd_bin h_add o_add (snd_var (pe_var (i := 1) rfl (.inl rfl) rfl rfl)) (snd_const pe_int (fun _ => Rep.ofInt))) sndA_nil rfl) rfl rfl rfl)) (snd_const pe_int (fun _ => Rep.ofInt))) (sndG_name (pg_name (i := 3) nd rfl (.inl rfl) (.inl rfl))) rfl rfl rfl)
 (sndSs_cons (sndS_ret (snd_if (snd_cmpT (op_eqD hr.units) o_eq (by first | rfl | exact nomark _) (snd_var (pe_var (i := 2) rfl (.inl rfl) rfl rfl)) (snd_const pe_int (fun _ => Rep.ofInt))) (snd_var (pe_var (i := 3) rfl (.inl rfl) rfl rfl)) (snd_bin h_add o_add (snd_bin h_add o_add (snd_var (pe_var (i := 1) rfl (.inl rfl) rfl rfl)) (snd_const pe_int (fun _ => Rep.ofInt))) (snd_var (pe_var (i := 3) rfl (.inl rfl) rfl rfl)))))
 sndSs_nil))))))))))
theorem ok_golden_number (KX : K.In h) (G : h.Ns mainGlobals mg) (c : SaysV fa fn ex K) : FnR Pg w K mg base (L2.CX Pg w) 3 ((d_golden_number).at_ K) (SpOf (cK K) g_golden_number) := by
  obtain ⟨fd, F⟩ := c.a.def_ 42 (d := d_golden_number) rfl
  exact fnR_all (fo_golden_number KX G c F) (FunD.bindsN F fun _ _ _ _ _ _ us hl => match us, hl with | [_, _, _], _ => rfl)
theorem sc__law_whole : FnScope ["_law_thing"] ["_law_thing"] (defScope st__law_whole) := ⟨rfl, rfl, rfl, by decide +kernel, rfl, by decide +kernel, by decide +kernel⟩
theorem fo__law_whole (KX : K.In h) (G : h.Ns mainGlobals mg) (c : SaysV fa fn ex K) {fd : FuncData} (F : FunD K "_law_whole" "_law_whole" (defArgs st__law_whole) (defBody st__law_whole) (defScope st__law_whole) (d__law_whole.dvs K) [] ((d__law_whole).at_ K) fd) : FnOk Pg w K mg base (L2.CX Pg w) 1 ((d__law_whole).at_ K) fd ["_law_thing"] (SpOf (cK K) g__law_whole) :=
  fn_def (N := ["_law_thing"]) (mb := m__law_whole) F sc__law_whole fun cdv A outer s H E hr => by
  have nd : (["_law_thing"] : List Str).Nodup := sc__law_whole.nd
  exact (sndSs_cons (sndS_ret (snd_andV (snd_isT (n := 0) (by decide) rfl (by decide) rfl rfl (free_ok KX G (c.a.fact 19 (f := .free "isinstance") rfl)) rfl (free_ok KX G (c.a.fact 4 (f := .free "int") rfl)) rfl (snd_var (pe_var (i := 0) rfl (.inl rfl) rfl rfl)) rfl rfl rfl) (snd_one (snd_notV (snd_isT (n := 1) (by decide) rfl (by decide) rfl rfl (free_ok KX G (c.a.fact 19 (f := .free "isinstance") rfl)) rfl (free_ok KX G (c.a.fact 24 (f := .free "bool") rfl)) rfl (snd_var (pe_var (i := 0) rfl (.inl rfl) rfl rfl)) rfl rfl rfl)))))
 sndSs_nil)
theorem ok__law_whole (KX : K.In h) (G : h.Ns mainGlobals mg) (c : SaysV fa fn ex K) : FnR Pg w K mg base (L2.CX Pg w) 1 ((d__law_whole).at_ K) (SpOf (cK K) g__law_whole) := by
  obtain ⟨fd, F⟩ := c.a.def_ 43 (d := d__law_whole) rfl
  exact fnR_all (fo__law_whole KX G c F) (FunD.bindsN F fun _ _ _ _ _ _ us hl => match us, hl with | [_], _ => rfl)
theorem sc_need_stand : FnScope ["web", "stand"] ["web", "stand"] (defScope st_need_stand) := ⟨rfl, rfl, rfl, by decide +kernel, rfl, by decide +kernel, by decide +kernel⟩
theorem fo_need_stand (KX : K.In h) (G : h.Ns mainGlobals mg) (c : SaysV fa fn ex K) {fd : FuncData} (F : FunD K "need_stand" "need_stand" (defArgs st_need_stand) (defBody st_need_stand) (defScope st_need_stand) (d_need_stand.dvs K) [] ((d_need_stand).at_ K) fd) : FnOk Pg w K mg base (L2.CX Pg w) 3 ((d_need_stand).at_ K) fd ["web", "stand"] (SpOf (cK K) g_need_stand) :=
  fn_def (N := ["web", "stand"]) (mb := m_need_stand) F sc_need_stand fun cdv A outer s H E hr => by
  have nd : (["web", "stand"] : List Str).Nodup := sc_need_stand.nd
  exact (sndSs_cons (sndS_expr (snd_rv (snd_call (io := false) ((ok_need_between (Pg := Pg) (w := w) (base := base) KX G c).mono (show 1 ≤ 2 by decide)) hr rfl (glo_ok KX G (c.a.fact 58 (f := .glo "need_between") rfl)) (keep_ok (c.a.fact 59 (f := .keep "need_between") rfl)) (sndA_cons (snd_var (pe_var (i := 1) rfl (.inl rfl) rfl rfl)) (sndA_cons (snd_const pe_int (fun _ => Rep.ofInt)) (sndA_cons (snd_bin op_sub o_sub (let z := (propB_ok (c.at_ 9 (f := (fun K => propB K (ga K "Web") "size")) rfl)); snd_prop (sclsB_ok (c.at_ 4 (f := (fun K => sclsB K (ga K "Web"))) rfl)) z.at_ z.get z.tk z.rc ((ok_Web__size (Pg := Pg) (w := w) (base := base) KX G c).mono (show 1 ≤ 1 by decide)) hr (snd_var (pe_var (i := 0) rfl (.inl rfl) rfl rfl)) rfl) (snd_const pe_int (fun _ => Rep.ofInt))) (sndA_cons (snd_const pe_str (fun _ => Rep.ofStr)) sndA_nil rfl) rfl) rfl) rfl) rfl rfl rfl)) rfl)
 sndSs_nil)
theorem ok_need_stand (KX : K.In h) (G : h.Ns mainGlobals mg) (c : SaysV fa fn ex K) : FnR Pg w K mg base (L2.CX Pg w) 3 ((d_need_stand).at_ K) (SpOf (cK K) g_need_stand) := by
  obtain ⟨fd, F⟩ := c.a.def_ 44 (d := d_need_stand) rfl
  exact fnR_all (fo_need_stand KX G c F) (FunD.bindsN F fun _ _ _ _ _ _ us hl => match us, hl with | [_, _], _ => rfl)
theorem sc_need_bank_against : FnScope ["web", "b"] ["web", "b"] (defScope st_need_bank_against) := ⟨rfl, rfl, rfl, by decide +kernel, rfl, by decide +kernel, by decide +kernel⟩
theorem fo_need_bank_against (KX : K.In h) (G : h.Ns mainGlobals mg) (c : SaysV fa fn ex K) {fd : FuncData} (F : FunD K "need_bank_against" "need_bank_against" (defArgs st_need_bank_against) (defBody st_need_bank_against) (defScope st_need_bank_against) (d_need_bank_against.dvs K) [] ((d_need_bank_against).at_ K) fd) : FnOk Pg w K mg base (L2.CX Pg w) 3 ((d_need_bank_against).at_ K) fd ["web", "b"] (SpOf (cK K) g_need_bank_against) :=
  fn_def (N := ["web", "b"]) (mb := m_need_bank_against) F sc_need_bank_against fun cdv A outer s H E hr => by
  have nd : (["web", "b"] : List Str).Nodup := sc_need_bank_against.nd
  exact (sndSs_cons (sndS_expr (snd_rv (snd_call (io := false) ((ok_need_up_to (Pg := Pg) (w := w) (base := base) KX G c).mono (show 1 ≤ 2 by decide)) hr rfl (glo_ok KX G (c.a.fact 34 (f := .glo "need_up_to") rfl)) (keep_ok (c.a.fact 35 (f := .keep "need_up_to") rfl)) (sndA_cons (snd_var (pe_var (i := 1) rfl (.inl rfl) rfl rfl)) (sndA_cons (let ⟨t, ht⟩ := (int_ok KX G (c.a.fact 33 (f := .int "BANK_MOST" (60)) rfl)); snd_const (pe_glob (v := .int 60) rfl ht ⟨t, rfl⟩ rfl) (fun _ => Rep.ofInt)) (sndA_cons (snd_const pe_str (fun _ => Rep.ofStr)) sndA_nil rfl) rfl) rfl) rfl rfl rfl)) rfl)
 (sndSs_cons (sndS_expr (snd_rv (snd_call (io := false) ((ok_need_up_to (Pg := Pg) (w := w) (base := base) KX G c).mono (show 1 ≤ 2 by decide)) hr rfl (glo_ok KX G (c.a.fact 34 (f := .glo "need_up_to") rfl)) (keep_ok (c.a.fact 35 (f := .keep "need_up_to") rfl)) (sndA_cons (let z := (propB_ok (c.at_ 6 (f := (fun K => propB K (ga K "Web") "greatest_due")) rfl)); snd_prop (sclsB_ok (c.at_ 4 (f := (fun K => sclsB K (ga K "Web"))) rfl)) z.at_ z.get z.tk z.rc ((ok_Web__greatest_due (Pg := Pg) (w := w) (base := base) KX G c).mono (show 1 ≤ 1 by decide)) hr (snd_var (pe_var (i := 0) rfl (.inl rfl) rfl rfl)) rfl) (sndA_cons (let ⟨t, ht⟩ := (int_ok KX G (c.a.fact 36 (f := .int "BANK_DUE" (1000000)) rfl)); snd_const (pe_glob (v := .int 1000000) rfl ht ⟨t, rfl⟩ rfl) (fun _ => Rep.ofInt)) (sndA_cons (snd_const pe_str (fun _ => Rep.ofStr)) sndA_nil rfl) rfl) rfl) rfl rfl rfl)) rfl)
 sndSs_nil))
theorem ok_need_bank_against (KX : K.In h) (G : h.Ns mainGlobals mg) (c : SaysV fa fn ex K) : FnR Pg w K mg base (L2.CX Pg w) 3 ((d_need_bank_against).at_ K) (SpOf (cK K) g_need_bank_against) := by
  obtain ⟨fd, F⟩ := c.a.def_ 45 (d := d_need_bank_against) rfl
  exact fnR_all (fo_need_bank_against KX G c F) (FunD.bindsN F fun _ _ _ _ _ _ us hl => match us, hl with | [_, _], _ => rfl)
theorem sc_bank_against : FnScope ["web", "stand", "b"] ["web", "stand", "b"] (defScope st_bank_against) := ⟨rfl, rfl, rfl, by decide +kernel, rfl, by decide +kernel, by decide +kernel⟩
theorem fo_bank_against (KX : K.In h) (G : h.Ns mainGlobals mg) (c : SaysV fa fn ex K) {fd : FuncData} (F : FunD K "bank_against" "bank_against" (defArgs st_bank_against) (defBody st_bank_against) (defScope st_bank_against) (d_bank_against.dvs K) [] ((d_bank_against).at_ K) fd) : FnOk Pg w K mg base (L2.CX Pg w) 9 ((d_bank_against).at_ K) fd ["web", "stand", "b"] (SpOf (cK K) g_bank_against) :=
  fn_def (N := ["web", "stand", "b"]) (mb := m_bank_against) F sc_bank_against fun cdv A outer s H E hr => by
  have nd : (["web", "stand", "b"] : List Str).Nodup := sc_bank_against.nd
  exact (sndSs_cons (sndS_expr (snd_rv (snd_call (io := false) ((ok_need_web (Pg := Pg) (w := w) (base := base) KX G c).mono (show 1 ≤ 8 by decide)) hr rfl (glo_ok KX G (c.a.fact 22 (f := .glo "need_web") rfl)) (keep_ok (c.a.fact 23 (f := .keep "need_web") rfl)) (sndA_cons (snd_var (pe_var (i := 0) rfl (.inl rfl) rfl rfl)) sndA_nil rfl) rfl rfl rfl)) rfl)
 (sndSs_cons (sndS_expr (snd_rv (snd_call (io := false) ((ok_need_integer (Pg := Pg) (w := w) (base := base) KX G c).mono (show 2 ≤ 8 by decide)) hr rfl (glo_ok KX G (c.a.fact 27 (f := .glo "need_integer") rfl)) (keep_ok (c.a.fact 28 (f := .keep "need_integer") rfl)) (sndA_cons (snd_var (pe_var (i := 1) rfl (.inl rfl) rfl rfl)) (sndA_cons (snd_const pe_str (fun _ => Rep.ofStr)) sndA_nil rfl) rfl) rfl rfl rfl)) rfl)
 (sndSs_cons (sndS_expr (snd_rv (snd_call (io := false) ((ok_need_integer (Pg := Pg) (w := w) (base := base) KX G c).mono (show 2 ≤ 8 by decide)) hr rfl (glo_ok KX G (c.a.fact 27 (f := .glo "need_integer") rfl)) (keep_ok (c.a.fact 28 (f := .keep "need_integer") rfl)) (sndA_cons (snd_var (pe_var (i := 2) rfl (.inl rfl) rfl rfl)) (sndA_cons (snd_const pe_str (fun _ => Rep.ofStr)) sndA_nil rfl) rfl) rfl rfl rfl)) rfl)
 (sndSs_cons (sndS_expr (snd_rv (snd_call (io := false) ((ok_need_stand (Pg := Pg) (w := w) (base := base) KX G c).mono (show 3 ≤ 8 by decide)) hr rfl (glo_ok KX G (c.a.fact 96 (f := .glo "need_stand") rfl)) (keep_ok (c.a.fact 97 (f := .keep "need_stand") rfl)) (sndA_cons (snd_var (pe_var (i := 0) rfl (.inl rfl) rfl rfl)) (sndA_cons (snd_var (pe_var (i := 1) rfl (.inl rfl) rfl rfl)) sndA_nil rfl) rfl) rfl rfl rfl)) rfl)
 (sndSs_cons (sndS_expr (snd_rv (snd_call (io := false) ((ok_need_from (Pg := Pg) (w := w) (base := base) KX G c).mono (show 1 ≤ 8 by decide)) hr rfl (glo_ok KX G (c.a.fact 30 (f := .glo "need_from") rfl)) (keep_ok (c.a.fact 31 (f := .keep "need_from") rfl)) (sndA_cons (snd_var (pe_var (i := 2) rfl (.inl rfl) rfl rfl)) (sndA_cons (snd_const pe_int (fun _ => Rep.ofInt)) (sndA_cons (snd_const pe_str (fun _ => Rep.ofStr)) sndA_nil rfl) rfl) rfl) rfl rfl rfl)) rfl)
 (sndSs_cons (sndS_expr (snd_rv (snd_call (io := false) ((ok_need_bank_against (Pg := Pg) (w := w) (base := base) KX G c).mono (show 3 ≤ 8 by decide)) hr rfl (glo_ok KX G (c.a.fact 98 (f := .glo "need_bank_against") rfl)) (keep_ok (c.a.fact 99 (f := .keep "need_bank_against") rfl)) (sndA_cons (snd_var (pe_var (i := 0) rfl (.inl rfl) rfl rfl)) (sndA_cons (snd_var (pe_var (i := 2) rfl (.inl rfl) rfl rfl)) sndA_nil rfl) rfl) rfl rfl rfl)) rfl)
 (sndSs_cons (sndS_ret (snd_ix ix_seq o_ix (fun _ _ => rfl) (snd_ix ix_seq o_ix (fun _ _ => rfl) (snd_rv (snd_call (io := false) ((ok_bank_rows_to (Pg := Pg) (w := w) (base := base) KX G c).mono (show 8 ≤ 8 by decide)) hr rfl (glo_ok KX G (c.a.fact 56 (f := .glo "bank_rows_to") rfl)) (keep_ok (c.a.fact 57 (f := .keep "bank_rows_to") rfl)) (sndA_cons (snd_var (pe_var (i := 0) rfl (.inl rfl) rfl rfl)) (sndA_cons (snd_var (pe_var (i := 2) rfl (.inl rfl) rfl rfl)) sndA_nil rfl) rfl) rfl rfl rfl)) (snd_var (pe_var (i := 2) rfl (.inl rfl) rfl rfl))) (snd_var (pe_var (i := 1) rfl (.inl rfl) rfl rfl))))
 sndSs_nil)))))))
theorem ok_bank_against (KX : K.In h) (G : h.Ns mainGlobals mg) (c : SaysV fa fn ex K) : FnR Pg w K mg base (L2.CX Pg w) 9 ((d_bank_against).at_ K) (SpOf (cK K) g_bank_against) := by
  obtain ⟨fd, F⟩ := c.a.def_ 46 (d := d_bank_against) rfl
  exact fnR_all (fo_bank_against KX G c F) (FunD.bindsN F fun _ _ _ _ _ _ us hl => match us, hl with | [_, _, _], _ => rfl)
theorem sc__law_great : FnScope ["_law_pot_here", "_law_number", "_law_turn"] ["_law_pot_here"] (defScope st__law_great) := ⟨rfl, rfl, rfl, by decide +kernel, rfl, by decide +kernel, by decide +kernel⟩
theorem fo__law_great (KX : K.In h) (G : h.Ns mainGlobals mg) (c : SaysV fa fn ex K) {fd : FuncData} (F : FunD K "_law_great" "_law_great" (defArgs st__law_great) (defBody st__law_great) (defScope st__law_great) (d__law_great.dvs K) [] ((d__law_great).at_ K) fd) : FnOk Pg w K mg base (L2.CX Pg w) 2 ((d__law_great).at_ K) fd ["_law_pot_here"] (SpOf (cK K) g__law_great) :=
  fn_def (N := ["_law_pot_here", "_law_number", "_law_turn"]) (mb := m__law_great) F sc__law_great fun cdv A outer s H E hr => by
  have nd : (["_law_pot_here", "_law_number", "_law_turn"] : List Str).Nodup := sc__law_great.nd
  exact (sndSs_cons (sndS_asg (noExc_name 1) (snd_const pe_int (fun _ => Rep.ofInt)) (sndG_name (pg_name (i := 1) nd rfl (.inl rfl) (.inl rfl))) rfl rfl rfl)
 (sndSs_cons (sndS_for (passes_of rfl) rfl (sndI_rng1 rfl (free_ok KX G (c.a.fact 3 (f := .free "range") rfl)) (snd_ix ix_seq o_ix (fun _ _ => rfl) (snd_frzF (sndF_lst (sndA_cons (snd_const pe_int (fun _ => Rep.ofInt)) (sndA_cons (snd_const pe_int (fun _ => Rep.ofInt)) (sndA_cons (snd_const pe_int (fun _ => Rep.ofInt)) (sndA_cons (snd_const pe_int (fun _ => Rep.ofInt)) sndA_nil rfl) rfl) rfl) rfl))) (snd_rv (snd_call (io := true) ((ok__law_draw (Pg := Pg) (w := w) (base := base) KX G c).mono (show 1 ≤ 1 by decide)) hr rfl (glo_ok KX G (c.a.fact 7 (f := .glo "_law_draw") rfl)) (keep_ok (c.a.fact 8 (f := .keep "_law_draw") rfl)) (sndA_cons (snd_var (pe_var (i := 0) rfl (.inl rfl) rfl rfl)) (sndA_cons (snd_const pe_int (fun _ => Rep.ofInt)) sndA_nil rfl) rfl) rfl rfl rfl))) rfl) (sndG_name (pg_name (i := 2) nd rfl (.inl rfl) (.inl rfl))) (sndSs_cons (sndS_asg (noExc_name 1) (snd_bin h_add o_add (snd_bin h_mul o_mul (snd_var (pe_var (i := 1) rfl (.inl rfl) rfl rfl)) (snd_const pe_int (fun _ => Rep.ofInt))) (snd_rv (snd_call (io := true) ((ok__law_draw (Pg := Pg) (w := w) (base := base) KX G c).mono (show 1 ≤ 1 by decide)) hr rfl (glo_ok KX G (c.a.fact 7 (f := .glo "_law_draw") rfl)) (keep_ok (c.a.fact 8 (f := .keep "_law_draw") rfl)) (sndA_cons (snd_var (pe_var (i := 0) rfl (.inl rfl) rfl rfl)) (sndA_cons (snd_const pe_int (fun _ => Rep.ofInt)) sndA_nil rfl) rfl) rfl rfl rfl))) (sndG_name (pg_name (i := 1) nd rfl (.inl rfl) (.inl rfl))) rfl rfl rfl)
 sndSs_nil) (fun _ => rfl))
 (sndSs_cons (sndS_ret (snd_var (pe_var (i := 1) rfl (.inl rfl) rfl rfl)))
 sndSs_nil)))
theorem ok__law_great (KX : K.In h) (G : h.Ns mainGlobals mg) (c : SaysV fa fn ex K) : FnR Pg w K mg base (L2.CX Pg w) 2 ((d__law_great).at_ K) (SpOf (cK K) g__law_great) := by
  obtain ⟨fd, F⟩ := c.a.def_ 47 (d := d__law_great) rfl
  exact fnR_all (fo__law_great KX G c F) (FunD.bindsN F fun _ _ _ _ _ _ us hl => match us, hl with | [_], _ => rfl)
theorem sc__law_is_share : FnScope ["_law_number", "_law_b"] ["_law_number", "_law_b"] (defScope st__law_is_share) := ⟨rfl, rfl, rfl, by decide +kernel, rfl, by decide +kernel, by decide +kernel⟩
theorem fo__law_is_share (KX : K.In h) (G : h.Ns mainGlobals mg) (c : SaysV fa fn ex K) {fd : FuncData} (F : FunD K "_law_is_share" "_law_is_share" (defArgs st__law_is_share) (defBody st__law_is_share) (defScope st__law_is_share) (d__law_is_share.dvs K) [] ((d__law_is_share).at_ K) fd) : FnOk Pg w K mg base (L2.CX Pg w) 1 ((d__law_is_share).at_ K) fd ["_law_number", "_law_b"] (SpOf (cK K) g__law_is_share) :=
  fn_def (N := ["_law_number", "_law_b"]) (mb := m__law_is_share) F sc__law_is_share fun cdv A outer s H E hr => by
  have nd : (["_law_number", "_law_b"] : List Str).Nodup := sc__law_is_share.nd
  exact (sndSs_cons (sndS_if (snd_cmpT op_gt o_gt (by first | rfl | exact nomark _) (snd_bin h_mul o_mul (snd_var (pe_var (i := 0) rfl (.inl rfl) rfl rfl)) (snd_bin h_add o_add (snd_var (pe_var (i := 0) rfl (.inl rfl) rfl rfl)) (snd_var (pe_var (i := 1) rfl (.inl rfl) rfl rfl)))) (snd_bin h_mul o_mul (snd_var (pe_var (i := 1) rfl (.inl rfl) rfl rfl)) (snd_var (pe_var (i := 1) rfl (.inl rfl) rfl rfl)))) (sndSs_cons (sndS_ret (snd_const pe_bl (fun _ => Rep.ofBl)))
 sndSs_nil) sndSs_nil)
 (sndSs_cons (sndS_ret (snd_cmp op_gt o_gt (by first | rfl | exact nomark _) (snd_bin h_mul o_mul (snd_bin h_add o_add (snd_var (pe_var (i := 0) rfl (.inl rfl) rfl rfl)) (snd_const pe_int (fun _ => Rep.ofInt))) (snd_bin h_add o_add (snd_bin h_add o_add (snd_var (pe_var (i := 0) rfl (.inl rfl) rfl rfl)) (snd_const pe_int (fun _ => Rep.ofInt))) (snd_var (pe_var (i := 1) rfl (.inl rfl) rfl rfl)))) (snd_bin h_mul o_mul (snd_var (pe_var (i := 1) rfl (.inl rfl) rfl rfl)) (snd_var (pe_var (i := 1) rfl (.inl rfl) rfl rfl)))))
 sndSs_nil))
theorem ok__law_is_share (KX : K.In h) (G : h.Ns mainGlobals mg) (c : SaysV fa fn ex K) : FnR Pg w K mg base (L2.CX Pg w) 1 ((d__law_is_share).at_ K) (SpOf (cK K) g__law_is_share) := by
  obtain ⟨fd, F⟩ := c.a.def_ 48 (d := d__law_is_share) rfl
  exact fnR_all (fo__law_is_share KX G c F) (FunD.bindsN F fun _ _ _ _ _ _ us hl => match us, hl with | [_, _], _ => rfl)
theorem sc_whole_root : FnScope ["number"] ["number"] (defScope st_whole_root) := ⟨rfl, rfl, rfl, by decide +kernel, rfl, by decide +kernel, by decide +kernel⟩
theorem fo_whole_root (KX : K.In h) (G : h.Ns mainGlobals mg) (c : SaysV fa fn ex K) {fd : FuncData} (F : FunD K "whole_root" "whole_root" (defArgs st_whole_root) (defBody st_whole_root) (defScope st_whole_root) (d_whole_root.dvs K) [] ((d_whole_root).at_ K) fd) : FnOk Pg w K mg base (L2.CX Pg w) 3 ((d_whole_root).at_ K) fd ["number"] (SpOf (cK K) g_whole_root) :=
  fn_def (N := ["number"]) (mb := m_whole_root) F sc_whole_root fun cdv A outer s H E hr => by
  have nd : (["number"] : List Str).Nodup := sc_whole_root.nd
  exact (sndSs_cons (sndS_expr (snd_rv (snd_call (io := false) ((ok_need_integer (Pg := Pg) (w := w) (base := base) KX G c).mono (show 2 ≤ 2 by decide)) hr rfl (glo_ok KX G (c.a.fact 27 (f := .glo "need_integer") rfl)) (keep_ok (c.a.fact 28 (f := .keep "need_integer") rfl)) (sndA_cons (snd_var (pe_var (i := 0) rfl (.inl rfl) rfl rfl)) (sndA_cons (snd_const pe_str (fun _ => Rep.ofStr)) sndA_nil rfl) rfl) rfl rfl rfl)) rfl)
 (sndSs_cons (sndS_expr (snd_rv (snd_call (io := false) ((ok_need_from (Pg := Pg) (w := w) (base := base) KX G c).mono (show 1 ≤ 2 by decide)) hr rfl (glo_ok KX G (c.a.fact 30 (f := .glo "need_from") rfl)) (keep_ok (c.a.fact 31 (f := .keep "need_from") rfl)) (sndA_cons (snd_var (pe_var (i := 0) rfl (.inl rfl) rfl rfl)) (sndA_cons (snd_const pe_int (fun _ => Rep.ofInt)) (sndA_cons (snd_const pe_str (fun _ => Rep.ofStr)) sndA_nil rfl) rfl) rfl) rfl rfl rfl)) rfl)
 (sndSs_cons (sndS_ret (snd_rv (snd_call (io := false) ((ok_golden_root (Pg := Pg) (w := w) (base := base) KX G c).mono (show 1 ≤ 2 by decide)) hr rfl (glo_ok KX G (c.a.fact 88 (f := .glo "golden_root") rfl)) (keep_ok (c.a.fact 89 (f := .keep "golden_root") rfl)) (sndA_cons (snd_var (pe_var (i := 0) rfl (.inl rfl) rfl rfl)) sndA_nil rfl) rfl rfl rfl)))
 sndSs_nil)))
theorem ok_whole_root (KX : K.In h) (G : h.Ns mainGlobals mg) (c : SaysV fa fn ex K) : FnR Pg w K mg base (L2.CX Pg w) 3 ((d_whole_root).at_ K) (SpOf (cK K) g_whole_root) := by
  obtain ⟨fd, F⟩ := c.a.def_ 49 (d := d_whole_root) rfl
  exact fnR_all (fo_whole_root KX G c F) (FunD.bindsN F fun _ _ _ _ _ _ us hl => match us, hl with | [_], _ => rfl)
theorem sc_law : FnScope ["_law_script", "_law_pot_here", "_law_mark", "_law_path", "_law_most", "_law_own", "_law_table", "_law_b", "_law_stand", "_law_number", "_law_low_here", "_law_after", "_law_square", "_law_root"] ["_law_script"] (defScope st_law) := ⟨rfl, rfl, rfl, by decide +kernel, rfl, by decide +kernel, by decide +kernel⟩
theorem fo_law (KX : K.In h) (G : h.Ns mainGlobals mg) (c : SaysV fa fn ex K) {fd : FuncData} (F : FunD K "law" "law" (defArgs st_law) (defBody st_law) (defScope st_law) (d_law.dvs K) [] ((d_law).at_ K) fd) : FnOk Pg w K mg base (L2.CX Pg w) 10 ((d_law).at_ K) fd ["_law_script"] (SpOf (cK K) g_law) :=
  fn_def (N := ["_law_script", "_law_pot_here", "_law_mark", "_law_path", "_law_most", "_law_own", "_law_table", "_law_b", "_law_stand", "_law_number", "_law_low_here", "_law_after", "_law_square", "_law_root"]) (mb := m_law) F sc_law fun cdv A outer s H E hr => by
  have nd : (["_law_script", "_law_pot_here", "_law_mark", "_law_path", "_law_most", "_law_own", "_law_table", "_law_b", "_law_stand", "_law_number", "_law_low_here", "_law_after", "_law_square", "_law_root"] : List Str).Nodup := sc_law.nd
  exact (sndSs_cons (m := m_law_1) (sndS_own (sndF_rv (snd_call (io := false) ((ok__law_pot (Pg := Pg) (w := w) (base := base) KX G c).mono (show 1 ≤ 9 by decide)) hr rfl (glo_ok KX G (c.a.fact 5 (f := .glo "_law_pot") rfl)) (keep_ok (c.a.fact 6 (f := .keep "_law_pot") rfl)) (sndA_cons (snd_var (pe_var (i := 0) rfl (.inl rfl) rfl rfl)) sndA_nil rfl) rfl rfl rfl)) (pg_name (i := 1) nd rfl (.inl rfl) (.inl rfl)) rfl rfl rfl)
 (sndSs_cons (m := m_law_2) (sndS_asg (noExc_name 2) (snd_bin h_add o_add (snd_const pe_int (fun _ => Rep.ofInt)) (snd_rv (snd_call (io := true) ((ok__law_draw (Pg := Pg) (w := w) (base := base) KX G c).mono (show 1 ≤ 9 by decide)) hr rfl (glo_ok KX G (c.a.fact 7 (f := .glo "_law_draw") rfl)) (keep_ok (c.a.fact 8 (f := .keep "_law_draw") rfl)) (sndA_cons (snd_var (pe_var (i := 1) rfl (.inl rfl) rfl rfl)) (sndA_cons (snd_const pe_int (fun _ => Rep.ofInt)) sndA_nil rfl) rfl) rfl rfl rfl))) (sndG_name (pg_name (i := 2) nd rfl (.inl rfl) (.inl rfl))) rfl rfl rfl)
 (sndSs_cons (m := m_law_3) (sndS_asg (noExc_name 3) (snd_frzF (sndF_lst (sndA_cons (snd_frzF (sndF_lst (sndA_cons (snd_frzF (sndF_lst sndA_nil)) (sndA_cons (snd_frzF (sndF_lst (sndA_cons (snd_const pe_int (fun _ => Rep.ofInt)) (sndA_cons (snd_const pe_int (fun _ => Rep.ofInt)) sndA_nil rfl) rfl))) (sndA_cons (snd_frzF (sndF_lst (sndA_cons (snd_const pe_int (fun _ => Rep.ofInt)) (sndA_cons (snd_const pe_int (fun _ => Rep.ofInt)) sndA_nil rfl) rfl))) (sndA_cons (snd_frzF (sndF_lst sndA_nil)) sndA_nil rfl) rfl) rfl) rfl))) (sndA_cons (snd_frzF (sndF_lst (sndA_cons (snd_frzF (sndF_lst sndA_nil)) (sndA_cons (snd_frzF (sndF_lst (sndA_cons (snd_const pe_int (fun _ => Rep.ofInt)) (sndA_cons (snd_const pe_int (fun _ => Rep.ofInt)) sndA_nil rfl) rfl))) (sndA_cons (snd_frzF (sndF_lst (sndA_cons (snd_const pe_int (fun _ => Rep.ofInt)) (sndA_cons (snd_const pe_int (fun _ => Rep.ofInt)) sndA_nil rfl) rfl))) (sndA_cons (snd_frzF (sndF_lst sndA_nil)) sndA_nil rfl) rfl) rfl) rfl))) (sndA_cons (snd_frzF (sndF_bin op_rep o_rep (snd_frzF (sndF_lst (sndA_cons (snd_var (pe_var (i := 2) rfl (.inl rfl) rfl rfl)) sndA_nil rfl))) (snd_const pe_int (fun _ => Rep.ofInt)))) (sndA_cons (snd_frzF (sndF_lst (sndA_cons (snd_tup (sndA_cons (snd_const pe_str (fun _ => Rep.ofStr)) (sndA_cons (snd_const pe_int (fun _ => Rep.ofInt)) sndA_nil rfl) rfl)) (sndA_cons (snd_const pe_non (fun _ => Rep.ofNon)) (sndA_cons (snd_const pe_non (fun _ => Rep.ofNon)) (sndA_cons (snd_const pe_non (fun _ => Rep.ofNon)) sndA_nil rfl) rfl) rfl) rfl))) sndA_nil rfl) rfl) rfl) rfl))) (sndG_name (pg_name (i := 3) nd rfl (.inl rfl) (.inl rfl))) rfl rfl rfl)
 (sndSs_cons (m := m_law_4) (sndS_asg (noExc_name 4) (snd_rv (snd_call (io := true) ((ok__law_draw (Pg := Pg) (w := w) (base := base) KX G c).mono (show 1 ≤ 9 by decide)) hr rfl (glo_ok KX G (c.a.fact 7 (f := .glo "_law_draw") rfl)) (keep_ok (c.a.fact 8 (f := .keep "_law_draw") rfl)) (sndA_cons (snd_var (pe_var (i := 1) rfl (.inl rfl) rfl rfl)) (sndA_cons (snd_const pe_int (fun _ => Rep.ofInt)) sndA_nil rfl) rfl) rfl rfl rfl)) (sndG_name (pg_name (i := 4) nd rfl (.inl rfl) (.inl rfl))) rfl rfl rfl)
 (sndSs_cons (m := m_law_5) (sndS_asg (noExc_name 5) (snd_rv (snd_call (io := false) ((ok__law_bank_rows (Pg := Pg) (w := w) (base := base) KX G c).mono (show 3 ≤ 9 by decide)) hr rfl (glo_ok KX G (c.a.fact 17 (f := .glo "_law_bank_rows") rfl)) (keep_ok (c.a.fact 18 (f := .keep "_law_bank_rows") rfl)) (sndA_cons (snd_var (pe_var (i := 3) rfl (.inl rfl) rfl rfl)) (sndA_cons (snd_var (pe_var (i := 4) rfl (.inl rfl) rfl rfl)) sndA_nil rfl) rfl) rfl rfl rfl)) (sndG_name (pg_name (i := 5) nd rfl (.inl rfl) (.inl rfl))) rfl rfl rfl)
 (sndSs_cons (m := m_law_6) (sndS_asg (noExc_name 6) (snd_rv (snd_call (io := false) ((ok_bank_rows (Pg := Pg) (w := w) (base := base) KX G c).mono (show 9 ≤ 9 by decide)) hr rfl (glo_ok KX G (c.a.fact 85 (f := .glo "bank_rows") rfl)) (keep_ok (c.a.fact 86 (f := .keep "bank_rows") rfl)) (sndA_cons (snd_rv (let z := (cmB_ok (c.at_ 19 (f := (fun K => cmB K (ga K "Web") "line")) rfl)); snd_cmeth (c := 10) (pe_glob rfl (glo_ok KX G (c.a.fact 20 (f := .glo "Web") rfl)) rfl rfl) z.2 z.1 ((ok_Web__line (Pg := Pg) (w := w) (base := base) KX G c).mono (show 7 ≤ 9 by decide)) hr (sndA_cons (snd_const pe_int (fun _ => Rep.ofInt)) (sndA_cons (snd_var (pe_var (i := 2) rfl (.inl rfl) rfl rfl)) sndA_nil rfl) rfl) rfl rfl rfl)) (sndA_cons (snd_var (pe_var (i := 4) rfl (.inl rfl) rfl rfl)) sndA_nil rfl) rfl) rfl rfl rfl)) (sndG_name (pg_name (i := 6) nd rfl (.inl rfl) (.inl rfl))) rfl rfl rfl)
 (sndSs_cons (m := m_law_7) (sndS_for (passes_of rfl) rfl (sndI_rng1 rfl (free_ok KX G (c.a.fact 3 (f := .free "range") rfl)) (snd_bin h_add o_add (snd_var (pe_var (i := 4) rfl (.inl rfl) rfl rfl)) (snd_const pe_int (fun _ => Rep.ofInt))) rfl) (sndG_name (pg_name (i := 7) nd rfl (.inl rfl) (.inl rfl))) (sndSs_cons (sndS_if (SndW.t (snd_orT (snd_cmpT (op_neD hr.units) o_ne (by first | rfl | exact nomark _) (snd_ix ix_seq o_ix (fun _ _ => rfl) (snd_ix ix_seq o_ix (fun _ _ => rfl) (snd_var (pe_var (i := 6) rfl (.inl rfl) rfl rfl)) (snd_var (pe_var (i := 7) rfl (.inl rfl) rfl rfl))) (snd_const pe_int (fun _ => Rep.ofInt))) (snd_const pe_int (fun _ => Rep.ofInt))) (snd_orT1 (snd_cmpT op_notN o_isNot (by first | rfl | exact nomark _) (snd_ix ix_seq o_ix (fun _ _ => rfl) (snd_ix ix_seq o_ix (fun _ _ => rfl) (snd_var (pe_var (i := 6) rfl (.inl rfl) rfl rfl)) (snd_var (pe_var (i := 7) rfl (.inl rfl) rfl rfl))) (snd_const pe_int (fun _ => Rep.ofInt))) (snd_const pe_non (fun _ => Rep.ofNon)))))) (sndSs_cons (sndS_ret (snd_const pe_bl (fun _ => Rep.ofBl)))
 sndSs_nil) sndSs_nil)
 (sndSs_cons (sndS_for (passes_of rfl) rfl (sndI_seq rfl (snd_frzF (sndF_lst (sndA_cons (snd_const pe_int (fun _ => Rep.ofInt)) (sndA_cons (snd_const pe_int (fun _ => Rep.ofInt)) sndA_nil rfl) rfl)))) (sndG_name (pg_name (i := 8) nd rfl (.inl rfl) (.inl rfl))) (sndSs_cons (sndS_asg (noExc_name 9) (snd_rv (snd_call (io := false) ((ok_golden_number (Pg := Pg) (w := w) (base := base) KX G c).mono (show 3 ≤ 9 by decide)) hr rfl (glo_ok KX G (c.a.fact 92 (f := .glo "golden_number") rfl)) (keep_ok (c.a.fact 93 (f := .keep "golden_number") rfl)) (sndA_cons (snd_var (pe_var (i := 2) rfl (.inl rfl) rfl rfl)) (sndA_cons (snd_var (pe_var (i := 7) rfl (.inl rfl) rfl rfl)) (sndA_cons (snd_var (pe_var (i := 8) rfl (.inl rfl) rfl rfl)) sndA_nil rfl) rfl) rfl) rfl rfl rfl)) (sndG_name (pg_name (i := 9) nd rfl (.inl rfl) (.inl rfl))) rfl rfl rfl)
 (sndSs_cons (sndS_if (SndW.t (snd_orT (snd_notT (snd_truth rfl (fun _ => rfl) (snd_rv (snd_call (io := false) ((ok__law_whole (Pg := Pg) (w := w) (base := base) KX G c).mono (show 1 ≤ 9 by decide)) hr rfl (glo_ok KX G (c.a.fact 94 (f := .glo "_law_whole") rfl)) (keep_ok (c.a.fact 95 (f := .keep "_law_whole") rfl)) (sndA_cons (snd_var (pe_var (i := 9) rfl (.inl rfl) rfl rfl)) sndA_nil rfl) rfl rfl rfl)))) (snd_orT (snd_cmpT (op_neD hr.units) o_ne (by first | rfl | exact nomark _) (snd_var (pe_var (i := 9) rfl (.inl rfl) rfl rfl)) (snd_ix ix_seq o_ix (fun _ _ => rfl) (snd_ix ix_seq o_ix (fun _ _ => rfl) (snd_var (pe_var (i := 5) rfl (.inl rfl) rfl rfl)) (snd_var (pe_var (i := 7) rfl (.inl rfl) rfl rfl))) (snd_var (pe_var (i := 8) rfl (.inl rfl) rfl rfl)))) (snd_orT1 (snd_cmpT (op_neD hr.units) o_ne (by first | rfl | exact nomark _) (snd_ix ix_seq o_ix (fun _ _ => rfl) (snd_ix ix_seq o_ix (fun _ _ => rfl) (snd_var (pe_var (i := 6) rfl (.inl rfl) rfl rfl)) (snd_var (pe_var (i := 7) rfl (.inl rfl) rfl rfl))) (snd_var (pe_var (i := 8) rfl (.inl rfl) rfl rfl))) (snd_var (pe_var (i := 9) rfl (.inl rfl) rfl rfl))))))) (sndSs_cons (sndS_ret (snd_const pe_bl (fun _ => Rep.ofBl)))
 sndSs_nil) sndSs_nil)
 sndSs_nil)) (fun _ => rfl))
 sndSs_nil)) (fun _ => rfl))
 (sndSs_cons (m := m_law_8) (sndS_if (snd_cmpT (op_neD hr.units) o_ne (by first | rfl | exact nomark _) (snd_rv (snd_call (io := false) ((ok_bank_against (Pg := Pg) (w := w) (base := base) KX G c).mono (show 9 ≤ 9 by decide)) hr rfl (glo_ok KX G (c.a.fact 100 (f := .glo "bank_against") rfl)) (keep_ok (c.a.fact 101 (f := .keep "bank_against") rfl)) (sndA_cons (snd_rv (let z := (cmB_ok (c.at_ 19 (f := (fun K => cmB K (ga K "Web") "line")) rfl)); snd_cmeth (c := 10) (pe_glob rfl (glo_ok KX G (c.a.fact 20 (f := .glo "Web") rfl)) rfl rfl) z.2 z.1 ((ok_Web__line (Pg := Pg) (w := w) (base := base) KX G c).mono (show 7 ≤ 9 by decide)) hr (sndA_cons (snd_const pe_int (fun _ => Rep.ofInt)) (sndA_cons (snd_var (pe_var (i := 2) rfl (.inl rfl) rfl rfl)) sndA_nil rfl) rfl) rfl rfl rfl)) (sndA_cons (snd_const pe_int (fun _ => Rep.ofInt)) (sndA_cons (snd_var (pe_var (i := 4) rfl (.inl rfl) rfl rfl)) sndA_nil rfl) rfl) rfl) rfl rfl rfl)) (snd_ix ix_seq o_ix (fun _ _ => rfl) (snd_ix ix_seq o_ix (fun _ _ => rfl) (snd_var (pe_var (i := 5) rfl (.inl rfl) rfl rfl)) (snd_var (pe_var (i := 4) rfl (.inl rfl) rfl rfl))) (snd_const pe_int (fun _ => Rep.ofInt)))) (sndSs_cons (sndS_ret (snd_const pe_bl (fun _ => Rep.ofBl)))
 sndSs_nil) sndSs_nil)
 (sndSs_cons (m := m_law_9) (sndS_asg (noExc_name 7) (snd_rv (snd_call (io := true) ((ok__law_great (Pg := Pg) (w := w) (base := base) KX G c).mono (show 2 ≤ 9 by decide)) hr rfl (glo_ok KX G (c.a.fact 102 (f := .glo "_law_great") rfl)) (keep_ok (c.a.fact 103 (f := .keep "_law_great") rfl)) (sndA_cons (snd_var (pe_var (i := 1) rfl (.inl rfl) rfl rfl)) sndA_nil rfl) rfl rfl rfl)) (sndG_name (pg_name (i := 7) nd rfl (.inl rfl) (.inl rfl))) rfl rfl rfl)
 (sndSs_cons (m := m_law_10) (sndS_asg (noExc_name 10) (snd_rv (snd_call (io := false) ((ok_golden_number (Pg := Pg) (w := w) (base := base) KX G c).mono (show 3 ≤ 9 by decide)) hr rfl (glo_ok KX G (c.a.fact 92 (f := .glo "golden_number") rfl)) (keep_ok (c.a.fact 93 (f := .keep "golden_number") rfl)) (sndA_cons (snd_const pe_int (fun _ => Rep.ofInt)) (sndA_cons (snd_var (pe_var (i := 7) rfl (.inl rfl) rfl rfl)) (sndA_cons (snd_const pe_int (fun _ => Rep.ofInt)) sndA_nil rfl) rfl) rfl) rfl rfl rfl)) (sndG_name (pg_name (i := 10) nd rfl (.inl rfl) (.inl rfl))) rfl rfl rfl)
 (sndSs_cons (m := m_law_11) (sndS_if (SndW.t (snd_orT (snd_notT (snd_truth rfl (fun _ => rfl) (snd_rv (snd_call (io := false) ((ok__law_is_share (Pg := Pg) (w := w) (base := base) KX G c).mono (show 1 ≤ 9 by decide)) hr rfl (glo_ok KX G (c.a.fact 104 (f := .glo "_law_is_share") rfl)) (keep_ok (c.a.fact 105 (f := .keep "_law_is_share") rfl)) (sndA_cons (snd_var (pe_var (i := 10) rfl (.inl rfl) rfl rfl)) (sndA_cons (snd_var (pe_var (i := 7) rfl (.inl rfl) rfl rfl)) sndA_nil rfl) rfl) rfl rfl rfl)))) (snd_orT1 (snd_cmpT (op_neD hr.units) o_ne (by first | rfl | exact nomark _) (snd_rv (snd_call (io := false) ((ok_golden_number (Pg := Pg) (w := w) (base := base) KX G c).mono (show 3 ≤ 9 by decide)) hr rfl (glo_ok KX G (c.a.fact 92 (f := .glo "golden_number") rfl)) (keep_ok (c.a.fact 93 (f := .keep "golden_number") rfl)) (sndA_cons (snd_const pe_int (fun _ => Rep.ofInt)) (sndA_cons (snd_var (pe_var (i := 7) rfl (.inl rfl) rfl rfl)) (sndA_cons (snd_const pe_int (fun _ => Rep.ofInt)) sndA_nil rfl) rfl) rfl) rfl rfl rfl)) (snd_bin h_add o_add (snd_var (pe_var (i := 7) rfl (.inl rfl) rfl rfl)) (snd_var (pe_var (i := 10) rfl (.inl rfl) rfl rfl))))))) (sndSs_cons (sndS_ret (snd_const pe_bl (fun _ => Rep.ofBl)))
 sndSs_nil) sndSs_nil)
 (sndSs_cons (m := m_law_12) (sndS_asg (noExc_name 11) (snd_rv (snd_call (io := false) ((ok_golden_number (Pg := Pg) (w := w) (base := base) KX G c).mono (show 3 ≤ 9 by decide)) hr rfl (glo_ok KX G (c.a.fact 92 (f := .glo "golden_number") rfl)) (keep_ok (c.a.fact 93 (f := .keep "golden_number") rfl)) (sndA_cons (snd_const pe_int (fun _ => Rep.ofInt)) (sndA_cons (snd_bin h_add o_add (snd_var (pe_var (i := 7) rfl (.inl rfl) rfl rfl)) (snd_const pe_int (fun _ => Rep.ofInt))) (sndA_cons (snd_const pe_int (fun _ => Rep.ofInt)) sndA_nil rfl) rfl) rfl) rfl rfl rfl)) (sndG_name (pg_name (i := 11) nd rfl (.inl rfl) (.inl rfl))) rfl rfl rfl)
 (sndSs_cons (m := m_law_13) (sndS_if (SndW.t (snd_orT (snd_notT (snd_truth rfl (fun _ => rfl) (snd_rv (snd_call (io := false) ((ok__law_is_share (Pg := Pg) (w := w) (base := base) KX G c).mono (show 1 ≤ 9 by decide)) hr rfl (glo_ok KX G (c.a.fact 104 (f := .glo "_law_is_share") rfl)) (keep_ok (c.a.fact 105 (f := .keep "_law_is_share") rfl)) (sndA_cons (snd_var (pe_var (i := 11) rfl (.inl rfl) rfl rfl)) (sndA_cons (snd_bin h_add o_add (snd_var (pe_var (i := 7) rfl (.inl rfl) rfl rfl)) (snd_const pe_int (fun _ => Rep.ofInt))) sndA_nil rfl) rfl) rfl rfl rfl)))) (snd_orT1 (snd_cmpT op_notIn_seq o_notIn (by first | rfl | exact nomark _) (snd_bin op_sub o_sub (snd_var (pe_var (i := 11) rfl (.inl rfl) rfl rfl)) (snd_var (pe_var (i := 10) rfl (.inl rfl) rfl rfl))) (snd_tup (sndA_cons (snd_const pe_int (fun _ => Rep.ofInt)) (sndA_cons (snd_const pe_int (fun _ => Rep.ofInt)) sndA_nil rfl) rfl)))))) (sndSs_cons (sndS_ret (snd_const pe_bl (fun _ => Rep.ofBl)))
 sndSs_nil) sndSs_nil)
 (sndSs_cons (m := m_law_14) (sndS_if (SndW.t (snd_orT (snd_cmpT (op_neD hr.units) o_ne (by first | rfl | exact nomark _) (snd_rv (snd_call (io := false) ((ok_golden_number (Pg := Pg) (w := w) (base := base) KX G c).mono (show 3 ≤ 9 by decide)) hr rfl (glo_ok KX G (c.a.fact 92 (f := .glo "golden_number") rfl)) (keep_ok (c.a.fact 93 (f := .keep "golden_number") rfl)) (sndA_cons (snd_const pe_int (fun _ => Rep.ofInt)) (sndA_cons (snd_var (pe_var (i := 7) rfl (.inl rfl) rfl rfl)) (sndA_cons (snd_const pe_int (fun _ => Rep.ofInt)) sndA_nil rfl) rfl) rfl) rfl rfl rfl)) (snd_bin h_add o_add (snd_var (pe_var (i := 11) rfl (.inl rfl) rfl rfl)) (snd_const pe_int (fun _ => Rep.ofInt)))) (snd_orT1 (snd_cmpT (op_neD hr.units) o_ne (by first | rfl | exact nomark _) (snd_rv (snd_call (io := false) ((ok_golden_number (Pg := Pg) (w := w) (base := base) KX G c).mono (show 3 ≤ 9 by decide)) hr rfl (glo_ok KX G (c.a.fact 92 (f := .glo "golden_number") rfl)) (keep_ok (c.a.fact 93 (f := .keep "golden_number") rfl)) (sndA_cons (snd_const pe_int (fun _ => Rep.ofInt)) (sndA_cons (snd_var (pe_var (i := 7) rfl (.inl rfl) rfl rfl)) (sndA_cons (snd_const pe_int (fun _ => Rep.ofInt)) sndA_nil rfl) rfl) rfl) rfl rfl rfl)) (snd_bin h_add o_add (snd_bin h_add o_add (snd_var (pe_var (i := 7) rfl (.inl rfl) rfl rfl)) (snd_var (pe_var (i := 11) rfl (.inl rfl) rfl rfl))) (snd_const pe_int (fun _ => Rep.ofInt))))))) (sndSs_cons (sndS_ret (snd_const pe_bl (fun _ => Rep.ofBl)))
 sndSs_nil) sndSs_nil)
 (sndSs_cons (m := m_law_15) (sndS_asg (noExc_name 12) (snd_rv (snd_call (io := true) ((ok__law_great (Pg := Pg) (w := w) (base := base) KX G c).mono (show 2 ≤ 9 by decide)) hr rfl (glo_ok KX G (c.a.fact 102 (f := .glo "_law_great") rfl)) (keep_ok (c.a.fact 103 (f := .keep "_law_great") rfl)) (sndA_cons (snd_var (pe_var (i := 1) rfl (.inl rfl) rfl rfl)) sndA_nil rfl) rfl rfl rfl)) (sndG_name (pg_name (i := 12) nd rfl (.inl rfl) (.inl rfl))) rfl rfl rfl)
 (sndSs_cons (m := m_law_16) (sndS_asg (noExc_name 13) (snd_rv (snd_call (io := false) ((ok_whole_root (Pg := Pg) (w := w) (base := base) KX G c).mono (show 3 ≤ 9 by decide)) hr rfl (glo_ok KX G (c.a.fact 106 (f := .glo "whole_root") rfl)) (keep_ok (c.a.fact 107 (f := .keep "whole_root") rfl)) (sndA_cons (snd_var (pe_var (i := 12) rfl (.inl rfl) rfl rfl)) sndA_nil rfl) rfl rfl rfl)) (sndG_name (pg_name (i := 13) nd rfl (.inl rfl) (.inl rfl))) rfl rfl rfl)
 (sndSs_cons (m := m_law_17) (sndS_if (SndW.t (snd_orT (snd_notT (snd_truth rfl (fun _ => rfl) (snd_rv (snd_call (io := false) ((ok__law_whole (Pg := Pg) (w := w) (base := base) KX G c).mono (show 1 ≤ 9 by decide)) hr rfl (glo_ok KX G (c.a.fact 94 (f := .glo "_law_whole") rfl)) (keep_ok (c.a.fact 95 (f := .keep "_law_whole") rfl)) (sndA_cons (snd_var (pe_var (i := 13) rfl (.inl rfl) rfl rfl)) sndA_nil rfl) rfl rfl rfl)))) (snd_orT (snd_cmpT op_gt o_gt (by first | rfl | exact nomark _) (snd_bin h_mul o_mul (snd_var (pe_var (i := 13) rfl (.inl rfl) rfl rfl)) (snd_var (pe_var (i := 13) rfl (.inl rfl) rfl rfl))) (snd_var (pe_var (i := 12) rfl (.inl rfl) rfl rfl))) (snd_orT1 (snd_cmpT op_le o_le (by first | rfl | exact nomark _) (snd_bin h_mul o_mul (snd_bin h_add o_add (snd_var (pe_var (i := 13) rfl (.inl rfl) rfl rfl)) (snd_const pe_int (fun _ => Rep.ofInt))) (snd_bin h_add o_add (snd_var (pe_var (i := 13) rfl (.inl rfl) rfl rfl)) (snd_const pe_int (fun _ => Rep.ofInt)))) (snd_var (pe_var (i := 12) rfl (.inl rfl) rfl rfl))))))) (sndSs_cons (sndS_ret (snd_const pe_bl (fun _ => Rep.ofBl)))
 sndSs_nil) sndSs_nil)
 (sndSs_cons (m := m_law_18) (sndS_if (SndW.t (snd_orT (snd_cmpT (op_neD hr.units) o_ne (by first | rfl | exact nomark _) (snd_rv (snd_call (io := false) ((ok_whole_root (Pg := Pg) (w := w) (base := base) KX G c).mono (show 3 ≤ 9 by decide)) hr rfl (glo_ok KX G (c.a.fact 106 (f := .glo "whole_root") rfl)) (keep_ok (c.a.fact 107 (f := .keep "whole_root") rfl)) (sndA_cons (snd_bin h_mul o_mul (snd_var (pe_var (i := 12) rfl (.inl rfl) rfl rfl)) (snd_var (pe_var (i := 12) rfl (.inl rfl) rfl rfl))) sndA_nil rfl) rfl rfl rfl)) (snd_var (pe_var (i := 12) rfl (.inl rfl) rfl rfl))) (snd_orT1 (snd_cmpT (op_neD hr.units) o_ne (by first | rfl | exact nomark _) (snd_rv (snd_call (io := false) ((ok_whole_root (Pg := Pg) (w := w) (base := base) KX G c).mono (show 3 ≤ 9 by decide)) hr rfl (glo_ok KX G (c.a.fact 106 (f := .glo "whole_root") rfl)) (keep_ok (c.a.fact 107 (f := .keep "whole_root") rfl)) (sndA_cons (snd_bin h_add o_add (snd_bin h_mul o_mul (snd_var (pe_var (i := 12) rfl (.inl rfl) rfl rfl)) (snd_var (pe_var (i := 12) rfl (.inl rfl) rfl rfl))) (snd_bin h_mul o_mul (snd_const pe_int (fun _ => Rep.ofInt)) (snd_var (pe_var (i := 12) rfl (.inl rfl) rfl rfl)))) sndA_nil rfl) rfl rfl rfl)) (snd_var (pe_var (i := 12) rfl (.inl rfl) rfl rfl)))))) (sndSs_cons (sndS_ret (snd_const pe_bl (fun _ => Rep.ofBl)))
 sndSs_nil) sndSs_nil)
 (sndSs_cons (m := m_law_19) (sndS_ret (snd_orV (snd_cmp (op_eqD hr.units) o_eq (by first | rfl | exact nomark _) (snd_var (pe_var (i := 12) rfl (.inl rfl) rfl rfl)) (snd_const pe_int (fun _ => Rep.ofInt))) (snd_one (snd_cmp (op_eqD hr.units) o_eq (by first | rfl | exact nomark _) (snd_rv (snd_call (io := false) ((ok_whole_root (Pg := Pg) (w := w) (base := base) KX G c).mono (show 3 ≤ 9 by decide)) hr rfl (glo_ok KX G (c.a.fact 106 (f := .glo "whole_root") rfl)) (keep_ok (c.a.fact 107 (f := .keep "whole_root") rfl)) (sndA_cons (snd_bin op_sub o_sub (snd_bin h_mul o_mul (snd_var (pe_var (i := 12) rfl (.inl rfl) rfl rfl)) (snd_var (pe_var (i := 12) rfl (.inl rfl) rfl rfl))) (snd_const pe_int (fun _ => Rep.ofInt))) sndA_nil rfl) rfl rfl rfl)) (snd_bin op_sub o_sub (snd_var (pe_var (i := 12) rfl (.inl rfl) rfl rfl)) (snd_const pe_int (fun _ => Rep.ofInt)))))))
 sndSs_nil)))))))))))))))))))
theorem ok_law (KX : K.In h) (G : h.Ns mainGlobals mg) (c : SaysV fa fn ex K) : FnR Pg w K mg base (L2.CX Pg w) 10 ((d_law).at_ K) (SpOf (cK K) g_law) := by
  obtain ⟨fd, F⟩ := c.a.def_ 50 (d := d_law) rfl
  exact fnR_all (fo_law KX G c F) (FunD.bindsN F fun _ _ _ _ _ _ us hl => match us, hl with | [_], _ => rfl)
end
end K64
end VL

set_option Elab.async false
set_option linter.all false
set_option maxRecDepth 100000
set_option maxHeartbeats 4000000
namespace VL
open PySem PySem.Spec PyProof.Rows L2 He He5
namespace K64
def lo0 : List PySem.Str := [.ofString "_wall", .ofString "PurseError", .ofString "WrongKind", .ofString "WrongNumber", .ofString "WrongWeb", .ofString "TooMuch", .ofString "is_integer", .ofString "need_integer", .ofString "need_list", .ofString "need_from", .ofString "need_between", .ofString "need_up_to", .ofString "need_integers", .ofString "GREATEST_DUE", .ofString "has_due_kind", .ofString "has_due_range", .ofString "kept_due", .ofString "MOST_STANDS", .ofString "_look_kinds", .ofString "_look_stand", .ofString "_look_web", .ofString "Web", .ofString "need_made", .ofString "need_web", .ofString "need_stand", .ofString "FAR_CHIPS", .ofString "golden_root", .ofString "golden_base", .ofString "whole_root", .ofString "golden_number", .ofString "BANK_MOST", .ofString "BANK_DUE", .ofString "bank_lesser", .ofString "bank_greater", .ofString "bank_low"]
def lo1 : List PySem.Str := [.ofString "bank_high", .ofString "bank_owed", .ofString "bank_ways", .ofString "bank_price_at", .ofString "bank_next", .ofString "bank_last", .ofString "bank_rows_to", .ofString "bank_rows", .ofString "need_bank_against", .ofString "bank_against", .ofString "_law_pot", .ofString "_law_draw", .ofString "_law_whole", .ofString "_law_low", .ofString "_law_high", .ofString "_law_bank_cost", .ofString "_law_bank_rows", .ofString "_law_great", .ofString "_law_is_share"]
def lo : List PySem.Str := lo0 ++ lo1
abbrev hk : PySem.W.Hook := hookV 6 fa fn ex
def ob (s : PySem.W.SharedT) : AlV := obsVG 6 fa fn ex (HandSHeadRun.getT s)
theorem ob_eq (s : PySem.W.SharedT) : ob s = hk.obs s.abs := obsVG_eq (HandSHeadRun.getT_eq s)
theorem run (w : World) : HandSHeadRun.RunEq Rw (PySem.W.view Rw.prog [62]) hk ob 9000 lo w := by
  intro os
  kernel_rfl
end K64
end VL

set_option Elab.async false
set_option linter.all false
set_option maxRecDepth 100000
set_option maxHeartbeats 4000000
namespace VL
open PySem PySem.Spec L2 He He5
namespace K64
def spLaw (K : PySem.W.Frag) : Sp := fun vs H Q _ => SpOf (cK K) g_law vs H Q fun _ _ _ => False
theorem law_sp {K : PySem.W.Frag} {H : Hp} {a : Addr} {ns : List Int} (hl : ns.length ≤ 63) (hS : SqL K H a (ns.map V.int)) : spLaw K [.ref a] H (fun v _ => v = .bl true) fun _ _ _ => False := by
  obtain ⟨s, e⟩ := law_true ns hl
  have z : (ns.map V.int).length ≤ sizeLine := by rw [List.length_map, sizeLine_eq]; omega
  refine ⟨none, [.ro (ns.map D.int)], H, none, none, Same.refl _, .plain (Reps.cons ?_ Reps.nil), ?_⟩
  · rw [Rep]
    exact ⟨a, _, rfl, hS, z, Reps.ofInts ns⟩
  · rw [e]
    intro P' H' v _ _ r
    exact (show Rep (cK K) P' (.bl true) v from r).bl
theorem facts {Pg : Program} {w : World} {K : PySem.W.Frag} {h : Heap} {mg : Str → Option Value} {f : Addr} (X : K.In h) (G : h.Ns mainGlobals mg) (hfa : mg ("law" : Str) = some (.ref f)) (c : SaysV fa fn ex K) :
    ∃ fd : FuncData, (∀ (s : Shared) (v : Value), BindsTo s fd ⟨[v], []⟩ [("_law_script", v)]) ∧ ∀ base : Heap, K.In base → base.Ns mainGlobals mg → FnOk Pg w K mg base (fun _ _ _ _ _ _ => False) 10 f fd ["_law_script"] (spLaw K) := by
  obtain ⟨fd, F⟩ := c.a.def_ 50 (d := d_law) rfl
  have e := hfa.symm.trans (glo_ok X G (c.a.fact 0 (f := .glo "law") rfl))
  cases e
  have b := FunD.bindsA (ps := ["_law_script"]) F fun _ _ _ _ _ _ us hl => match us, hl with | [_], _ => rfl
  exact ⟨fd, fun s v => b s [v] rfl, fun base _ _ => fn_quiet (fo_law X G c F)⟩
end K64
end VL
open PySem PySem.W PySem.Calls PyProof.Rows
theorem PySem.Challenge.cw_pursewebs_k64_golden_row_holds : PySem.Challenge.rw_pursewebs_k64_golden_row.Holds := by
  w_on; o_law
  refine HandSHeadRun.head_any (r := OpenLaw.row PySem.Challenge.rw_pursewebs_k64_golden_row) (q := view (OpenLaw.row PySem.Challenge.rw_pursewebs_k64_golden_row).prog [62]) (H := VL.K64.hk) (ob := VL.K64.ob) (M := 9000) (loose := VL.K64.lo) (d := HandSHeadRun.topDef (OpenLaw.row PySem.Challenge.rw_pursewebs_k64_golden_row).prog 62) (kwd := []) VL.K64.ob_eq
    (by kernel_rfl) (fun s => by kernel_rfl) VL.K64.run (by kernel_rfl) (by kernel_rfl) (by kernel_rfl) (by rfl) (by first | assumption | decide +kernel) (by decide +kernel) ⟨rfl, rfl, rfl, rfl, rfl, by decide +kernel⟩ ?hw ?hc
  case hw => w_witness2
  case hc =>
    refine L2.walk_ofE (l := PySem.Challenge.rw_pursewebs_k64_golden_row) (n := 63) (k := 10) (x := "_law_script") (CX := fun _ _ _ _ _ _ => False) rfl (by decide) (by kernel_rfl) ⟨rfl, by decide, by decide⟩ ?F (fun _ _ _ _ z => z)
    case F =>
      intro w mg fa h Y G hmg0
      obtain ⟨K, KX, c⟩ := Y
      have hmg : mg ("law" : PySem.Str) = some (.ref fa) := by
        have e : (HandSHeadRun.topDef (OpenLaw.row PySem.Challenge.rw_pursewebs_k64_golden_row).prog 62).name = ("law" : PySem.Str) := by kernel_rfl
        rw [← e]
        exact hmg0
      obtain ⟨fd, hb, hF⟩ := VL.K64.facts (Pg := (PySem.Challenge.rw_pursewebs_k64_golden_row).prog) (w := w) KX G hmg c
      exact ⟨K, fd, VL.K64.spLaw K, KX, hb, fun H a ns hl _ hS => VL.K64.law_sp hl hS, hF⟩

