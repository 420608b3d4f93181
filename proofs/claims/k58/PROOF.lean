import PyProof.Rows.All
import Wide.All
import OpenK.AllK
import Wide.FinOn
import HandS.ForMost
import HandS.Defaults
import HandS.Conv
import HandS.Zip
import HandS.Rev
import HandS.Style
import HandS.IsInst
import HandS.SortKw
import HandS.SortInts
import HandS.SortOrd
import HandS.TupAny
import HandS.TupLe
import HandS.Wide
import HandS.Flow
import KE.DataMinMax
import KE.SortData
import HandS.TupSets
import KE.GoesEnum
import HandS.Head0
import HandS.Head1
import HandS.Head2
import HandS.HeadEnd
import HandS.HeadHook1
import HandS.HeadHook2
import PySem.Challenge.RW_sincemarks_k58_whole_bases_by_heights
set_option Elab.async false
set_option linter.all false
set_option maxRecDepth 100000
set_option maxHeartbeats 0
/-! The data layer: what stands in a slot, what a value looks like, steps. -/
namespace DL
open L2 PySem PySem.Spec PyProof.Rows
abbrev St := L2.St

inductive Sl where
  | im (d : PyData)
  | ac (ds : List PyData)
abbrev Ev := List (Option Sl)
inductive Rs where
  | im (d : PyData)
  | ac (ds : List PyData)
  | br (i : Nat)
def isAc : Option (Option Sl) → Bool
  | some (some (.ac _)) => true
  | _ => false
theorem isAc_iff {o : Option (Option Sl)} : isAc o = true ↔ ∃ ds, o = some (some (.ac ds)) := by
  constructor
  · intro h
    match o, h with
    | some (some (.ac ds)), _ => exact ⟨ds, rfl⟩
  · rintro ⟨ds, rfl⟩
    rfl

section
variable {K : PySem.W.Frag} {G G' G1 G2 H H' H1 E G0 : Hp} {v : V} {vs ws : List V} {d : PyData} {ds : List PyData} {p a : Addr} {o : HO} {σ σ' : St} {e e' e1 : Ev} {m : Option Addr} {i : Nat} {r : Rs}

theorem seqT (s : Same G G') {xs : List V} (h : SqT K G a xs) : SqT K G' a xs := by
  rcases h with (h | ⟨q, h⟩) | h
  · exact .inl (.inl (s _ _ h))
  · exact .inl (.inr ⟨q, s _ _ h⟩)
  · exact .inr h
mutual
theorem dp_same (s : Same G G') : ∀ {v : V} {d : PyData}, Dp K G v d → Dp K G' v d
  | _, _, .non => .non
  | _, _, .bl b => .bl b
  | _, _, .int i => .int i
  | _, _, .str x => .str x
  | _, _, .lst h q => .lst (s.seq h) (dpAll_same s q)
  | _, _, .tup h q => .tup (seqT s h) (dpAll_same s q)
theorem dpAll_same (s : Same G G') : ∀ {vs : List V} {ds : List PyData}, DpAll K G vs ds → DpAll K G' vs ds
  | _, _, .nil => .nil
  | _, _, .cons h q => .cons (dp_same s h) (dpAll_same s q)
end
theorem dpAll_len : ∀ {vs : List V} {ds : List PyData}, DpAll K G vs ds → vs.length = ds.length
  | _, _, .nil => rfl
  | _, _, .cons _ q => congrArg (· + 1) (dpAll_len q)
theorem dpAll_get : ∀ {vs : List V} {ds : List PyData} {i : Nat} {d : PyData}, DpAll K G vs ds → ds[i]? = some d → ∃ v, vs[i]? = some v ∧ Dp K G v d
  | _, _, _, _, .nil, z => by simp at z
  | _, _, 0, _, .cons (v := v) h _, z => ⟨v, rfl, by
      have z2 := Option.some.inj z
      rw [← z2]
      exact h⟩
  | _, _, i + 1, _, .cons _ q, z => by
      obtain ⟨v, h1, h2⟩ := dpAll_get (i := i) q (by simpa using z)
      exact ⟨v, by simpa using h1, h2⟩
theorem dpAll_at : ∀ {vs : List V} {ds : List PyData} {i : Nat} {v : V}, DpAll K G vs ds → vs[i]? = some v → ∃ d, ds[i]? = some d ∧ Dp K G v d
  | _, _, _, _, .nil, z => by simp at z
  | _, _, 0, _, .cons (d := d) h _, z => ⟨d, rfl, by
      have z2 := Option.some.inj z
      rw [← z2]
      exact h⟩
  | _, _, i + 1, _, .cons _ q, z => by
      obtain ⟨v, h1, h2⟩ := dpAll_at (i := i) q (by simpa using z)
      exact ⟨v, by simpa using h1, h2⟩
theorem dpAll_app : ∀ {vs ws : List V} {ds es : List PyData}, DpAll K G vs ds → DpAll K G ws es → DpAll K G (vs ++ ws) (ds ++ es)
  | _, _, _, _, .nil, q => q
  | _, _, _, _, .cons h t, q => .cons h (dpAll_app t q)
theorem dpAll_set : ∀ {vs : List V} {ds : List PyData} (i : Nat), DpAll K G vs ds → Dp K G v d → DpAll K G (vs.set i v) (ds.set i d)
  | _, _, _, .nil, _ => .nil
  | _, _, 0, .cons _ t, q => .cons q t
  | _, _, i + 1, .cons h t, q => .cons h (dpAll_set i t q)
theorem dpAll_take : ∀ {vs : List V} {ds : List PyData} (n : Nat), DpAll K G vs ds → DpAll K G (vs.take n) (ds.take n)
  | _, _, 0, _ => .nil
  | _, _, _ + 1, .nil => .nil
  | _, _, n + 1, .cons h t => .cons h (dpAll_take n t)
theorem dpAll_drop : ∀ {vs : List V} {ds : List PyData} (n : Nat), DpAll K G vs ds → DpAll K G (vs.drop n) (ds.drop n)
  | _, _, 0, t => t
  | _, _, _ + 1, .nil => .nil
  | _, _, n + 1, .cons _ t => dpAll_drop n t
theorem dpAll_rev : ∀ {vs : List V} {ds : List PyData}, DpAll K G vs ds → DpAll K G vs.reverse ds.reverse
  | _, _, .nil => .nil
  | _, _, .cons h t => by
    (rw [List.reverse_cons, List.reverse_cons])
    exact dpAll_app (dpAll_rev t) (.cons h .nil)
theorem dpAll_rep (h : DpAll K G vs ds) : ∀ k : Nat, DpAll K G (List.replicate k vs).flatten (List.replicate k ds).flatten
  | 0 => .nil
  | k + 1 => by
    (rw [List.replicate_succ, List.replicate_succ, List.flatten_cons, List.flatten_cons])
    exact dpAll_app h (dpAll_rep h k)
theorem dpAll_ints : ∀ (ns : List Int), DpAll K G (ns.map V.int) (ns.map PyData.int)
  | [] => .nil
  | n :: ns => .cons (.int n) (dpAll_ints ns)

def Own (σ : St) (e : Ev) (a : Addr) : Prop := ∃ (i : Nat) (ds : List PyData), e[i]? = some (some (.ac ds)) ∧ σ[i]? = some (some (.ref a))

/-- the slots e are what σ holds: G what stays, H what stands, E what stood at the entry but the object at m -/
structure Rl (K : PySem.W.Frag) (m : Option Addr) (E G0 G : Hp) (e : Ev) (σ : St) (H : Hp) : Prop where
  gg : Same G0 G
  gh : Same G H
  eh : ∀ a o, E a = some o → m ≠ some a → H a = some o
  mh : ∀ a, m = some a → E a ≠ none ∧ H a ≠ none
  nw : ∀ a, G0 a = none → E a ≠ none → G a = none
  len : e.length = σ.length
  im : ∀ (i : Nat) (d : PyData), e[i]? = some (some (.im d)) → ∃ (v : V), σ[i]? = some (some v) ∧ Dp K G v d
  ac : ∀ (i : Nat) (ds : List PyData), e[i]? = some (some (.ac ds)) → ∃ (p : Addr) (ws : List V), σ[i]? = some (some (.ref p)) ∧ G p = none ∧ H p = some (.lst ws) ∧ DpAll K G ws ds ∧ (E p = none ∨ (m = some p ∧ i = 0))
  inj : ∀ (i j : Nat) (di dj : List PyData) (p : Addr), e[i]? = some (some (.ac di)) → e[j]? = some (some (.ac dj)) → σ[i]? = some (some (.ref p)) → σ[j]? = some (some (.ref p)) → i = j

/-- from one moment of an expression to a later one -/
structure Stp (σ : St) (G H : Hp) (e : Ev) (G' H' : Hp) (e' : Ev) : Prop where
  gg : Same G G'
  nw : ∀ a, G a = none → H a ≠ none → G' a = none
  hh : ∀ a o, H a = some o → ¬ Own σ e a → H' a = some o
  kd : ∀ i : Nat, isAc e'[i]? = isAc e[i]?
  th : ∀ a, H a ≠ none → H' a ≠ none

theorem own_kd (k : ∀ i : Nat, isAc e'[i]? = isAc e[i]?) : Own σ e' a ↔ Own σ e a := by
  constructor
  · rintro ⟨i, ds, h1, h2⟩
    have z : isAc e[i]? = true := by rw [← k i, h1]; rfl
    obtain ⟨ds', q⟩ := isAc_iff.mp z
    exact ⟨i, ds', q, h2⟩
  · rintro ⟨i, ds, h1, h2⟩
    have z : isAc e'[i]? = true := by rw [k i, h1]; rfl
    obtain ⟨ds', q⟩ := isAc_iff.mp z
    exact ⟨i, ds', q, h2⟩
theorem Stp.refl : Stp σ G H e G H e := ⟨Same.refl _, fun _ h _ => h, fun _ _ h _ => h, fun _ => rfl, fun _ h => h⟩
theorem Stp.trans (a : Stp σ G H e G1 H1 e1) (b : Stp σ G1 H1 e1 G' H' e') : Stp σ G H e G' H' e' where
  gg := a.gg.trans b.gg
  nw := fun x h1 h2 => b.nw x (a.nw x h1 h2) (a.th x h2)
  hh := fun x o h1 h2 => b.hh x o (a.hh x o h1 h2) fun z => h2 ((own_kd a.kd).mp z)
  kd := fun i => (b.kd i).trans (a.kd i)
  th := fun x h => b.th x (a.th x h)

/-- a value as a result -/
def Vr (K : PySem.W.Frag) (E G H : Hp) (σ : St) (e : Ev) (v : V) : Rs → Prop
  | .im d => Dp K G v d
  | .ac ds => ∃ p ws, v = .ref p ∧ E p = none ∧ G p = none ∧ H p = some (.lst ws) ∧ DpAll K G ws ds ∧ ¬ Own σ e p
  | .br i => ∃ ds, e[i]? = some (some (.ac ds)) ∧ σ[i]? = some (some v)
/-- a new list was not there ahead -/
def Nw (H : Hp) (v : V) : Rs → Prop
  | .ac _ => ∀ p, v = .ref p → H p = none
  | _ => True
theorem Vr.stp (S : Stp σ G H e G' H' e') : ∀ {r : Rs}, Vr K E G H σ e v r → Vr K E G' H' σ e' v r
  | .im d, h => dp_same S.gg h
  | .ac ds, h => by
    obtain ⟨p, ws, rfl, h1, h2, h3, h4, h5⟩ := h
    exact ⟨p, ws, rfl, h1, S.nw p h2 (by rw [h3]; simp), S.hh p _ h3 h5, dpAll_same S.gg h4, fun z => h5 ((own_kd S.kd).mp z)⟩
  | .br i, h => by
    obtain ⟨ds, h1, h2⟩ := h
    have z : isAc e'[i]? = true := by rw [S.kd i, h1]; rfl
    obtain ⟨ds', q⟩ := isAc_iff.mp z
    exact ⟨ds', q, h2⟩
/-- the frozen form -/
def frzR : Rs → Rs
  | .ac ds => .im (.list ds)
  | r => r
/-- a new list is left as it is for good -/
theorem Rl.freeze (R : Rl K m E G0 G' e' σ H') (S : Stp σ G H e G' H' e') (h : Vr K E G' H' σ e' v r) (n : Nw H v r) :
    ∃ G2, Rl K m E G0 G2 e' σ H' ∧ Stp σ G H e G2 H' e' ∧ Same G' G2 ∧ Vr K E G2 H' σ e' v (frzR r) := by
  cases r with
  | im d => exact ⟨G', R, S, Same.refl _, h⟩
  | br i => exact ⟨G', R, S, Same.refl _, h⟩
  | ac ds =>
    obtain ⟨p, ws, rfl, h1, h2, h3, h4, h5⟩ := h
    have s1 : Same G' (upd G' p (.lst ws)) := fun b o q => by
      rw [upd_ne (ne_of_none q h2)]
      exact q
    have hp : H p = none := n p rfl
    refine ⟨upd G' p (.lst ws), ⟨R.gg.trans s1, fun b o q => ?_, R.eh, R.mh, fun b b1 b2 => ?_, R.len, fun i d q => ?_, fun i ds' q => ?_, R.inj⟩, ⟨S.gg.trans s1, fun b b1 b2 => ?_, S.hh, S.kd, S.th⟩, s1, ?_⟩
    · by_cases z : b = p
      · subst z
        rw [upd_same] at q
        rw [h3]
        exact q
      · rw [upd_ne z] at q
        exact R.gh b o q
    · have z : b ≠ p := fun z => b2 (by rw [z]; exact h1)
      rw [upd_ne z]
      exact R.nw b b1 b2
    · obtain ⟨u, q1, q2⟩ := R.im i d q
      exact ⟨u, q1, dp_same s1 q2⟩
    · obtain ⟨p', ws', q1, q2, q3, q4, q5⟩ := R.ac i ds' q
      have z : p' ≠ p := fun z => h5 ⟨i, ds', q, by rw [← z]; exact q1⟩
      exact ⟨p', ws', q1, by rw [upd_ne z]; exact q2, q3, dpAll_same s1 q4, q5⟩
    · have z : b ≠ p := fun z => b2 (by rw [z]; exact hp)
      rw [upd_ne z]
      exact S.nw b b1 b2
    · exact .lst (.inl (.inl upd_same)) (dpAll_same s1 h4)

/-- a list's own items may be in H, not in G -/
def Lv (K : PySem.W.Frag) (G H : Hp) (v : V) (d : PyData) : Prop := Dp K G v d ∨ ∃ p ws ds, v = .ref p ∧ d = .list ds ∧ H p = some (.lst ws) ∧ DpAll K G ws ds
/-- what a frozen result holds -/
def lookR (e : Ev) : Rs → Option PyData
  | .im d => some d
  | .ac _ => none
  | .br i => match e[i]? with
    | some (some (.ac ds)) => some (.list ds)
    | _ => none
theorem Rl.look (R : Rl K m E G0 G e σ H) (h : Vr K E G H σ e v r) (q : lookR e r = some d) : Lv K G H v d := by
  cases r with
  | im d' =>
    cases q
    exact .inl h
  | ac ds => cases q
  | br i =>
    obtain ⟨ds, h1, h2⟩ := h
    simp only [lookR, h1, Option.some.injEq] at q
    subst q
    obtain ⟨p, ws, q1, q2, q3, q4, q5⟩ := R.ac i ds h1
    rw [h2] at q1
    cases q1
    exact .inr ⟨p, ws, ds, rfl, rfl, q3, q4⟩
theorem Lv.dp (s : Same G H) (h : Lv K G H v d) : Dp K H v d := by
  rcases h with h | ⟨p, ws, ds, rfl, rfl, h1, h2⟩
  · exact dp_same s h
  · exact .lst (.inl (.inl h1)) (dpAll_same s h2)
/-- as a list -/
theorem Lv.list (s : Same G H) (h : Lv K G H v (.list ds)) : ∃ p ws, v = .ref p ∧ SqL K H p ws ∧ DpAll K G ws ds := by
  rcases h with h | ⟨p, ws, ds', rfl, e, h1, h2⟩
  · cases h with
    | lst h q => exact ⟨_, _, rfl, s.seq h, q⟩
  · cases e
    exact ⟨p, ws, rfl, .inl (.inl h1), h2⟩
theorem Lv.tup (s : Same G H) (h : Lv K G H v (.tuple ds)) : ∃ p ws, v = .ref p ∧ SqT K H p ws ∧ DpAll K G ws ds := by
  rcases h with h | ⟨p, ws, ds', rfl, e, h1, h2⟩
  · cases h with
    | tup h q => exact ⟨_, _, rfl, seqT s h, q⟩
  · cases e
theorem Lv.int {i : Int} (h : Lv K G H v (.int i)) : v = .int i := by
  rcases h with h | ⟨p, ws, ds, rfl, e, _⟩
  · cases h
    rfl
  · cases e
theorem Lv.bool {b : Bool} (h : Lv K G H v (.bool b)) : v = .bl b := by
  rcases h with h | ⟨p, ws, ds, rfl, e, _⟩
  · cases h
    rfl
  · cases e
theorem Lv.none (h : Lv K G H v .none) : v = .non := by
  rcases h with h | ⟨p, ws, ds, rfl, e, _⟩
  · cases h
    rfl
  · cases e
theorem Lv.str {x : Str} (h : Lv K G H v (.str x)) : v = .str x := by
  rcases h with h | ⟨p, ws, ds, rfl, e, _⟩
  · cases h
    rfl
  · cases e

/-! ### new objects -/
theorem Rl.fresh (R : Rl K m E G0 G e σ H) (h : H p = none) : G p = none ∧ E p = none ∧ ¬ Own σ e p ∧ m ≠ some p := by
  refine ⟨R.gh.free h, ?_, ?_, ?_⟩
  · cases q : E p with
    | none => rfl
    | some o =>
      by_cases z : m = some p
      · exact absurd h (R.mh p z).2
      · rw [R.eh p o q z] at h
        cases h
  · rintro ⟨i, ds, h1, h2⟩
    obtain ⟨p', ws, q1, _, q3, _⟩ := R.ac i ds h1
    rw [h2] at q1
    cases q1
    rw [h] at q3
    cases q3
  · intro z
    exact absurd h (R.mh p z).2
theorem same_new (h : H p = none) : Same H (upd H p o) := fun b u q => by
  rw [upd_ne (ne_of_none q h)]
  exact q
/-- a new tuple -/
theorem Rl.newT (R : Rl K m E G0 G e σ H) (h : H p = none) (q : DpAll K G ws ds) :
    Rl K m E G0 (upd G p (.tup ws)) e σ (upd H p (.tup ws)) ∧ Stp σ G H e (upd G p (.tup ws)) (upd H p (.tup ws)) e ∧ Dp K (upd G p (.tup ws)) (.ref p) (.tuple ds) := by
  obtain ⟨hG, hE, hO, hm⟩ := R.fresh h
  have s1 : Same G (upd G p (.tup ws)) := same_new hG
  have nb : ∀ {b : Addr}, H b ≠ none → b ≠ p := fun {b} z y => z (by rw [y]; exact h)
  refine ⟨⟨R.gg.trans s1, fun b u z => ?_, fun b u b1 b2 => ?_, fun b b1 => ⟨(R.mh b b1).1, ?_⟩, fun b b1 b2 => ?_, R.len, fun i d z => ?_, fun i ds' z => ?_, R.inj⟩, ⟨s1, fun b b1 b2 => ?_, fun b u b1 _ => same_new h b u b1, fun _ => rfl, fun b b1 => ?_⟩, .tup (.inl (.inl upd_same)) (dpAll_same s1 q)⟩
  · by_cases y : b = p
    · subst y
      rw [upd_same] at z ⊢
      exact z
    · rw [upd_ne y] at z ⊢
      exact R.gh b u z
  · exact same_new h b u (R.eh b u b1 b2)
  · rw [upd_ne (nb (R.mh b b1).2)]
    exact (R.mh b b1).2
  · have y : b ≠ p := fun y => b2 (by rw [y]; exact hE)
    rw [upd_ne y]
    exact R.nw b b1 b2
  · obtain ⟨u, z1, z2⟩ := R.im i d z
    exact ⟨u, z1, dp_same s1 z2⟩
  · obtain ⟨p', ws', z1, z2, z3, z4, z5⟩ := R.ac i ds' z
    have y : p' ≠ p := nb (by rw [z3]; simp)
    exact ⟨p', ws', z1, by rw [upd_ne y]; exact z2, by rw [upd_ne y]; exact z3, dpAll_same s1 z4, z5⟩
  · rw [upd_ne (nb b2)]
    exact b1
  · rw [upd_ne (nb b1)]
    exact b1
/-- a new list -/
theorem Rl.newL (R : Rl K m E G0 G e σ H) (h : H p = none) (q : DpAll K G ws ds) :
    Rl K m E G0 G e σ (upd H p (.lst ws)) ∧ Stp σ G H e G (upd H p (.lst ws)) e ∧ Vr K E G (upd H p (.lst ws)) σ e (.ref p) (.ac ds) ∧ Nw H (.ref p) (.ac ds) := by
  obtain ⟨hG, hE, hO, hm⟩ := R.fresh h
  have nb : ∀ {b : Addr}, H b ≠ none → b ≠ p := fun {b} z y => z (by rw [y]; exact h)
  refine ⟨⟨R.gg, R.gh.trans (same_new h), fun b u b1 b2 => same_new h b u (R.eh b u b1 b2), fun b b1 => ⟨(R.mh b b1).1, ?_⟩, R.nw, R.len, R.im, fun i ds' z => ?_, R.inj⟩, ⟨Same.refl _, fun _ b1 _ => b1, fun b u b1 _ => same_new h b u b1, fun _ => rfl, fun b b1 => ?_⟩, ⟨p, ws, rfl, hE, hG, upd_same, q, hO⟩, fun p' z => ?_⟩
  · rw [upd_ne (nb (R.mh b b1).2)]
    exact (R.mh b b1).2
  · obtain ⟨p', ws', z1, z2, z3, z4, z5⟩ := R.ac i ds' z
    have y : p' ≠ p := nb (by rw [z3]; simp)
    exact ⟨p', ws', z1, z2, by rw [upd_ne y]; exact z3, z4, z5⟩
  · rw [upd_ne (nb b1)]
    exact b1
  · cases z
    exact h
end
end DL
namespace DL
open L2 PySem PySem.Spec PyProof.Rows

abbrev Fe := Ev → Option (Rs × Ev)
abbrev Ft := Ev → Option (Bool × Ev)
abbrev Fa := Ev → Option (List Rs × Ev)
inductive Fl where
  | nx (e : Ev)
  | bk (e : Ev)
  | ct (e : Ev)
  | rt (r : Rs) (e : Ev)
abbrev Fs := Ev → Option Fl

/-- what must follow a result -/
def Po (K : PySem.W.Frag) (m : Option Addr) (E G0 : Hp) (σ : St) (G H : Hp) (e : Ev) (r : Rs) (e' : Ev) (Q : VK) : Prop :=
  ∀ v G' H', Rl K m E G0 G' e' σ H' → Stp σ G H e G' H' e' → Vr K E G' H' σ e' v r → Nw H v r → Q v H'
structure ED (X : Cx) (x : Expr) (f : Fe) : Prop where
  ex : ∃ t : TE, PE X x t ∧ ∀ (m : Option Addr) (E G0 G : Hp) (e : Ev) (σ : St) (H : Hp) (r : Rs) (e' : Ev) (Q : VK),
    Rl X.K m E G0 G e σ H → f e = some (r, e') → Po X.K m E G0 σ G H e r e' Q → t σ H Q
structure TD (X : Cx) (x : Expr) (f : Ft) : Prop where
  ex : ∃ t : TT, PT X x t ∧ ∀ (m : Option Addr) (E G0 G : Hp) (e : Ev) (σ : St) (H : Hp) (b : Bool) (e' : Ev) (Q : Bool → Hp → Prop),
    Rl X.K m E G0 G e σ H → f e = some (b, e') → (∀ G' H', Rl X.K m E G0 G' e' σ H' → Stp σ G H e G' H' e' → Q b H') → t σ H Q
structure WD (X : Cx) (x : Expr) (f : Ft) : Prop where
  ex : ∃ t : TT, PW X x t ∧ ∀ (m : Option Addr) (E G0 G : Hp) (e : Ev) (σ : St) (H : Hp) (b : Bool) (e' : Ev) (Q : Bool → Hp → Prop),
    Rl X.K m E G0 G e σ H → f e = some (b, e') → (∀ G' H', Rl X.K m E G0 G' e' σ H' → Stp σ G H e G' H' e' → Q b H') → t σ H Q
def VrAll (K : PySem.W.Frag) (E G H : Hp) (σ : St) (e : Ev) : List V → List Rs → Prop
  | [], [] => True
  | v :: vs, r :: rs => Vr K E G H σ e v r ∧ VrAll K E G H σ e vs rs
  | _, _ => False
structure AD (X : Cx) (xs : List Expr) (f : Fa) : Prop where
  ex : ∃ t : TA, PA X xs t ∧ ∀ (m : Option Addr) (E G0 G : Hp) (e : Ev) (σ : St) (H : Hp) (rs : List Rs) (e' : Ev) (Q : List V → Hp → Prop),
    Rl X.K m E G0 G e σ H → f e = some (rs, e') → (∀ vs G' H', Rl X.K m E G0 G' e' σ H' → Stp σ G H e G' H' e' → VrAll X.K E G' H' σ e' vs rs → Q vs H') → t σ H Q
def lookAll (e : Ev) : List Rs → Option (List PyData)
  | [] => some []
  | r :: rs => match lookR e r with
    | some d => (match lookAll e rs with
      | some ds => some (d :: ds)
      | none => none)
    | none => none
def LvAll (K : PySem.W.Frag) (G H : Hp) : List V → List PyData → Prop
  | [], [] => True
  | v :: vs, d :: ds => Lv K G H v d ∧ LvAll K G H vs ds
  | _, _ => False

section
variable {K : PySem.W.Frag} {G G' H H' E G0 : Hp} {v : V} {d : PyData} {σ : St} {e e' e1 : Ev} {m : Option Addr} {r : Rs} {Q : VK}
theorem VrAll.stp (S : Stp σ G H e G' H' e') : ∀ {vs : List V} {rs : List Rs}, VrAll K E G H σ e vs rs → VrAll K E G' H' σ e' vs rs
  | [], [], _ => True.intro
  | _ :: _, _ :: _, h => ⟨h.1.stp S, VrAll.stp S h.2⟩
  | [], _ :: _, h => h.elim
  | _ :: _, [], h => h.elim
theorem Rl.lookAll (R : Rl K m E G0 G e σ H) : ∀ {vs : List V} {rs : List Rs} {ds : List PyData}, VrAll K E G H σ e vs rs → DL.lookAll e rs = some ds → LvAll K G H vs ds
  | [], [], ds, _, q => by
    cases q
    exact True.intro
  | v :: vs, r :: rs, ds, h, q => by
    simp only [DL.lookAll] at q
    cases h1 : lookR e r with
    | none =>
      rw [h1] at q
      cases q
    | some d =>
      rw [h1] at q
      cases h2 : DL.lookAll e rs with
      | none =>
        simp only [h2] at q
        cases q
      | some ds2 =>
        simp only [h2, Option.some.injEq] at q
        subst q
        exact ⟨R.look h.1 h1, R.lookAll h.2 h2⟩
  | [], _ :: _, _, h, _ => h.elim
  | _ :: _, [], _, h, _ => h.elim
theorem LvAll.len : ∀ {vs : List V} {ds : List PyData}, LvAll K G H vs ds → vs.length = ds.length
  | [], [], _ => rfl
  | _ :: _, _ :: _, h => congrArg (· + 1) (LvAll.len h.2)
  | [], _ :: _, h => h.elim
  | _ :: _, [], h => h.elim
theorem LvAll.dp (s : Same G H) : ∀ {vs : List V} {ds : List PyData}, LvAll K G H vs ds → DpAll K H vs ds
  | [], [], _ => .nil
  | _ :: _, _ :: _, h => .cons (h.1.dp s) (LvAll.dp s h.2)
  | [], _ :: _, h => h.elim
  | _ :: _, [], h => h.elim
/-- a result at the very moment -/
theorem Po.now (P : Po K m E G0 σ G H e r e Q) (R : Rl K m E G0 G e σ H) (h : Vr K E G H σ e v r) (n : Nw H v r) : Q v H := P v G H R Stp.refl h n
theorem Po.of (P : Po K m E G0 σ G H e r e' Q) (S : Stp σ G H e G' H' e1) : (∀ v, Nw H' v r → Nw H v r) → Po K m E G0 σ G' H' e1 r e' Q :=
  fun n v G2 H2 R2 S2 h2 n2 => P v G2 H2 R2 (S.trans S2) h2 (n v n2)
theorem nw_back (S : Stp σ G H e G' H' e1) : ∀ {r : Rs} (v : V), Nw H' v r → Nw H v r
  | .im _, _, _ => True.intro
  | .br _, _, _ => True.intro
  | .ac _, v, n => fun p z => by
    cases q : H p with
    | none => rfl
    | some o => exact absurd (n p z) (S.th p (by rw [q]; simp))
theorem Po.aft (P : Po K m E G0 σ G H e r e' Q) (S : Stp σ G H e G' H' e1) : Po K m E G0 σ G' H' e1 r e' Q := P.of S fun v n => nw_back S v n
end

/-! ### names, constants -/
def x_var (i : Nat) : Fe := fun e => match e[i]? with
  | some (some (.im d)) => some (.im d, e)
  | some (some (.ac _)) => some (.br i, e)
  | _ => none
def x_c (d : PyData) : Fe := fun e => some (.im d, e)
section
variable {X : Cx} {pos : Pos}
theorem ed_var (i : Nat) {x : Str} (hN : X.N[i]? = some x := by rfl) (hv : Vis X.env.scope x := by first | exact Or.inl rfl | exact Or.inr (Or.inl rfl) | exact Or.inr (Or.inr rfl)) (hd : (x == ("__debug__" : Str)) = false := by decide)
    (hcd : (x == ("__classdict__" : Str)) = false := by decide) : ED X (.Name x pos) (x_var i) := by
  refine ⟨_, pe_var hN hv hd hcd, fun m E G0 G e σ H r e' Q R q P => ?_⟩
  unfold x_var at q
  split at q
  · rename_i d h
    cases q
    obtain ⟨v, h1, h2⟩ := R.im i d h
    exact ⟨v, h1, P.now R h2 True.intro⟩
  · rename_i ds h
    cases q
    obtain ⟨p, ws, h1, _⟩ := R.ac i ds h
    exact ⟨.ref p, h1, P.now R ⟨ds, h, h1⟩ True.intro⟩
  · cases q
theorem ed_int {i j} : ED X (.Constant (.int i) j pos) (x_c (.int i)) := ⟨_, pe_int, fun m E G0 G e σ H r e' Q R q P => by
  cases q
  exact P.now R (.int i) True.intro⟩
theorem ed_bl {b j} : ED X (.Constant (.bool b) j pos) (x_c (.bool b)) := ⟨_, pe_bl, fun m E G0 G e σ H r e' Q R q P => by
  cases q
  exact P.now R (.bl b) True.intro⟩
theorem ed_non {j} : ED X (.Constant .none j pos) (x_c .none) := ⟨_, pe_non, fun m E G0 G e σ H r e' Q R q P => by
  cases q
  exact P.now R .non True.intro⟩
theorem ed_str {x j} : ED X (.Constant (.str x) j pos) (x_c (.str x)) := ⟨_, pe_str, fun m E G0 G e σ H r e' Q R q P => by
  cases q
  exact P.now R (.str x) True.intro⟩
/-- an int of the module -/
theorem ed_gint {x : Str} {i : Int} (hg : Gl X x) (hm : ∃ t, X.mg x = some (.int i t)) (hd : (x == ("__debug__" : Str)) = false := by decide) : ED X (.Name x pos) (x_c (.int i)) := by
  obtain ⟨t, hm⟩ := hm
  refine ⟨_, pe_glob (v := .int i) hg hm ⟨t, rfl⟩ hd, fun m E G0 G e σ H r e' Q R q P => ?_⟩
  cases q
  exact P.now R (.int i) True.intro
end

/-! ### operators -/
/-- both sides, left to right -/
def two (fa fb : Fe) : Ev → Option (Rs × Rs × Ev) := fun e => match fa e with
  | some (ra, e1) => (match fb e1 with
    | some (rb, e2) => some (frzR ra, frzR rb, e2)
    | none => none)
  | none => none
def look2 (p : Rs × Rs × Ev) : Option (PyData × PyData × Ev) := match lookR p.2.2 p.1, lookR p.2.2 p.2.1 with
  | some a, some b => some (a, b, p.2.2)
  | _, _ => none
def x_bin (φ : PyData → PyData → Option Rs) (fa fb : Fe) : Fe := fun e => match two fa fb e with
  | some p => (match look2 p with
    | some (a, b, e2) => (match φ a b with
      | some r => some (r, e2)
      | none => none)
    | none => none)
  | none => none
section
variable {X : Cx} {a b : Expr} {fa fb : Fe} {pos : Pos}
theorem two_ok (ha : ED X a fa) (hb : ED X b fb) : ∃ ta tb, PE X a ta ∧ PE X b tb ∧ ∀ (m : Option Addr) (E G0 G : Hp) (e : Ev) (σ : St) (H : Hp) (ra rb : Rs) (e' : Ev) (R : V → V → Hp → Prop),
    Rl X.K m E G0 G e σ H → two fa fb e = some (ra, rb, e') → (∀ u v G' H', Rl X.K m E G0 G' e' σ H' → Stp σ G H e G' H' e' → Vr X.K E G' H' σ e' u ra → Vr X.K E G' H' σ e' v rb → R u v H') →
    ta σ H fun x H1 => tb σ H1 fun y H2 => R x y H2 := by
  obtain ⟨ta, pa, ka⟩ := ha
  obtain ⟨tb, pb, kb⟩ := hb
  refine ⟨ta, tb, pa, pb, fun m E G0 G e σ H ra rb e' R Rl0 q k => ?_⟩
  unfold two at q
  cases h1 : fa e with
  | none => simp only [h1] at q; cases q
  | some p1 =>
    obtain ⟨r1, e1⟩ := p1
    simp only [h1] at q
    cases h2 : fb e1 with
    | none => simp only [h2] at q; cases q
    | some p2 =>
      obtain ⟨r2, e2⟩ := p2
      simp only [h2, Option.some.injEq, Prod.mk.injEq] at q
      obtain ⟨rfl, rfl, rfl⟩ := q
      refine ka m E G0 G e σ H r1 e1 _ Rl0 h1 fun u G1 H1 R1 S1 V1 N1 => ?_
      obtain ⟨G1', R1', S1', s1, V1'⟩ := R1.freeze S1 V1 N1
      refine kb m E G0 G1' e1 σ H1 r2 e2 _ R1' h2 fun v G2 H2 R2 S2 V2 N2 => ?_
      obtain ⟨G2', R2', S2', s2, V2'⟩ := R2.freeze S2 V2 N2
      exact k u v G2' H2 R2' (S1'.trans S2') (V1'.stp S2') V2'
end
/-- a two-place rule by values, over data -/
def VB (K : PySem.W.Frag) (r : R2) (φ : PyData → PyData → Option Rs) : Prop :=
  ∀ (m : Option Addr) (E G0 G : Hp) (e : Ev) (σ : St) (H : Hp) (x y : V) (dx dy : PyData) (rr : Rs) (Q : VK), Rl K m E G0 G e σ H → Lv K G H x dx → Lv K G H y dy → φ dx dy = some rr → Po K m E G0 σ G H e rr e Q → r x y H Q
def orF {α β γ : Type} (φ ψ : α → β → Option γ) : α → β → Option γ := fun a b => match φ a b with
  | some r => some r
  | none => ψ a b
theorem VB.or {K : PySem.W.Frag} {r r' : R2} {φ ψ : PyData → PyData → Option Rs} (h : VB K r φ) (h' : VB K r' ψ) : VB K (fun x y H Q => r x y H Q ∨ r' x y H Q) (orF φ ψ) := by
  intro m E G0 G e σ H x y dx dy rr Q R lx ly q P
  unfold orF at q
  cases h1 : φ dx dy with
  | some r1 =>
    simp only [h1, Option.some.injEq] at q
    subst q
    exact .inl (h m E G0 G e σ H x y dx dy _ Q R lx ly h1 P)
  | none =>
    simp only [h1] at q
    exact .inr (h' m E G0 G e σ H x y dx dy _ Q R lx ly q P)
/-- its result is nothing new -/
theorem VB.pure {K : PySem.W.Frag} {r : R2} {φ : PyData → PyData → Option PyData}
    (h : ∀ (G H : Hp) (x y : V) (dx dy d : PyData) (Q : VK), Same G H → Lv K G H x dx → Lv K G H y dy → φ dx dy = some d → (∀ v, Dp K G v d → Q v H) → r x y H Q) : VB K r (fun a b => (φ a b).map Rs.im) := by
  intro m E G0 G e σ H x y dx dy rr Q R lx ly q P
  cases h1 : φ dx dy with
  | none => simp only [h1, Option.map_none] at q; cases q
  | some d =>
    simp only [h1, Option.map_some, Option.some.injEq] at q
    subst q
    exact h G H x y dx dy d Q R.gh lx ly h1 fun v z => P.now R z True.intro
section
variable {X : Cx} {a b : Expr} {fa fb : Fe} {pos : Pos} {op : Operator} {cop : CmpOp} {r : R2} {φ : PyData → PyData → Option Rs}
theorem bin_ok {ta tb : TE} (hv : VB X.K r φ) (k2 : ∀ (m : Option Addr) (E G0 G : Hp) (e : Ev) (σ : St) (H : Hp) (ra rb : Rs) (e' : Ev) (R : V → V → Hp → Prop),
    Rl X.K m E G0 G e σ H → two fa fb e = some (ra, rb, e') → (∀ u v G' H', Rl X.K m E G0 G' e' σ H' → Stp σ G H e G' H' e' → Vr X.K E G' H' σ e' u ra → Vr X.K E G' H' σ e' v rb → R u v H') → ta σ H fun x H1 => tb σ H1 fun y H2 => R x y H2)
    (m : Option Addr) (E G0 G : Hp) (e : Ev) (σ : St) (H : Hp) (rr : Rs) (e' : Ev) (Q : VK) (R : Rl X.K m E G0 G e σ H) (q : x_bin φ fa fb e = some (rr, e')) (P : Po X.K m E G0 σ G H e rr e' Q) : tOp r ta tb σ H Q := by
  unfold x_bin at q
  cases h1 : two fa fb e with
  | none => simp only [h1] at q; cases q
  | some p =>
    obtain ⟨ra, rb, e2⟩ := p
    simp only [h1] at q
    cases h2 : look2 (ra, rb, e2) with
    | none => simp only [h2] at q; cases q
    | some z =>
      obtain ⟨da, db, e3⟩ := z
      simp only [h2] at q
      cases h3 : φ da db with
      | none => simp only [h3] at q; cases q
      | some r3 =>
        simp only [h3, Option.some.injEq, Prod.mk.injEq] at q
        obtain ⟨rfl, rfl⟩ := q
        unfold look2 at h2
        dsimp only at h2
        cases h4 : lookR e2 ra with
        | none => simp only [h4] at h2; cases h2
        | some d1 =>
          cases h5 : lookR e2 rb with
          | none => simp only [h4, h5] at h2; cases h2
          | some d2 =>
            simp only [h4, h5, Option.some.injEq, Prod.mk.injEq] at h2
            obtain ⟨rfl, rfl, rfl⟩ := h2
            exact k2 m E G0 G e σ H ra rb e2 _ R h1 fun u v G' H' R' S' V1 V2 => hv m E G0 G' e2 σ H' u v _ _ _ Q R' (R'.look V1 h4) (R'.look V2 h5) h3 (P.aft S')
theorem ed_op (hv : VB X.K r φ) (ho : OpR X (binaryOp op) r) (ha : ED X a fa) (hb : ED X b fb) : ED X (.BinOp a op b pos) (x_bin φ fa fb) := by
  obtain ⟨ta, tb, pa, pb, k2⟩ := two_ok ha hb
  exact ⟨_, pe_op ho pa pb, bin_ok hv k2⟩
theorem ed_cmp (hv : VB X.K r φ) (ho : OpR X (compareOp cop) r) (hm : behindInMarks cop b = false) (ha : ED X a fa) (hb : ED X b fb) : ED X (.Compare a [cop] [b] pos) (x_bin φ fa fb) := by
  obtain ⟨ta, tb, pa, pb, k2⟩ := two_ok ha hb
  exact ⟨_, pe_cmpR ho pa pb hm, bin_ok hv k2⟩
end
/-- a result that is a bool, as a test -/
def t_of (f : Fe) : Ft := fun e => match f e with
  | some (.im (.bool b), e1) => some (b, e1)
  | _ => none
theorem t_of_ok {f : Fe} {e e' : Ev} {b : Bool} (q : t_of f e = some (b, e')) : f e = some (.im (.bool b), e') := by
  unfold t_of at q
  split at q
  · rename_i b1 e1 h
    cases q
    exact h
  · cases q
section
variable {X : Cx} {a b c : Expr} {fa fb fc : Fe} {pos : Pos} {cop cop' : CmpOp} {r r' : R2} {φ ψ : PyData → PyData → Option Rs}
theorem td_cmp (hv : VB X.K r φ) (ho : OpR X (compareOp cop) r) (hm : behindInMarks cop b = false) (ha : ED X a fa) (hb : ED X b fb) : TD X (.Compare a [cop] [b] pos) (t_of (x_bin φ fa fb)) := by
  obtain ⟨ta, tb, pa, pb, k2⟩ := two_ok ha hb
  refine ⟨_, pt_cmpR ho pa pb hm, fun m E G0 G e σ H k e' Q R q P => ?_⟩
  exact bin_ok hv k2 m E G0 G e σ H _ e' _ R (t_of_ok q) fun v G' H' R' S' V' _ => by
    cases V'
    exact ⟨k, rfl, P G' H' R' S'⟩
/-- an expression that gives a bool, as a test -/
theorem td_val {x : Expr} {f : Fe} (h : ED X x f) (he : ∀ whole, isTrue x X.env whole = (do let v ← whole; standAt x.pos; holding [v] (truthy v)) := by intro _; rfl) : TD X x (t_of f) := by
  obtain ⟨t, p, k⟩ := h
  refine ⟨_, pt_val p he, fun m E G0 G e σ H b e' Q R q P => ?_⟩
  exact k m E G0 G e σ H _ e' _ R (t_of_ok q) fun v G' H' R' S' V' _ => by
    cases V'
    exact ⟨b, rfl, P G' H' R' S'⟩
def t_not (f : Ft) : Ft := fun e => match f e with
  | some (b, e1) => some (!b, e1)
  | none => none
theorem td_not {f : Ft} (h : TD X a f) : TD X (.UnaryOp .Not a pos) (t_not f) := by
  obtain ⟨t, p, k⟩ := h
  refine ⟨_, pt_not p, fun m E G0 G e σ H b e' Q R q P => ?_⟩
  unfold t_not at q
  cases h1 : f e with
  | none => simp only [h1] at q; cases q
  | some z =>
    obtain ⟨b1, e1⟩ := z
    simp only [h1, Option.some.injEq, Prod.mk.injEq] at q
    obtain ⟨rfl, rfl⟩ := q
    exact k m E G0 G e σ H b1 e1 _ R h1 P
def t_and (f g : Ft) : Ft := fun e => match f e with
  | some (true, e1) => g e1
  | some (false, e1) => some (false, e1)
  | none => none
def t_or (f g : Ft) : Ft := fun e => match f e with
  | some (true, e1) => some (true, e1)
  | some (false, e1) => g e1
  | none => none
variable {f g : Ft} {rest : List Expr}
theorem wd_and1 (h : TD X a f) : WD X (.BoolOp .And [a] pos) f := by
  obtain ⟨t, p, k⟩ := h
  exact ⟨_, pw_and1 p, k⟩
theorem wd_or1 (h : TD X a f) : WD X (.BoolOp .Or [a] pos) f := by
  obtain ⟨t, p, k⟩ := h
  exact ⟨_, pw_or1 p, k⟩
theorem wd_and (h : TD X a f) (h2 : WD X (.BoolOp .And (b :: rest) pos) g) : WD X (.BoolOp .And (a :: b :: rest) pos) (t_and f g) := by
  obtain ⟨t, p, k⟩ := h
  obtain ⟨t2, p2, k2⟩ := h2
  refine ⟨_, pw_and p p2, fun m E G0 G e σ H c e' Q R q P => ?_⟩
  unfold t_and at q
  cases h1 : f e with
  | none => simp only [h1] at q; cases q
  | some z =>
    obtain ⟨b1, e1⟩ := z
    cases b1 with
    | true =>
      simp only [h1] at q
      refine k m E G0 G e σ H true e1 _ R h1 fun G' H' R' S' => ?_
      show if true = true then _ else _
      rw [if_pos rfl]
      exact k2 m E G0 G' e1 σ H' c e' Q R' q fun G2 H2 R2 S2 => P G2 H2 R2 (S'.trans S2)
    | false =>
      simp only [h1, Option.some.injEq, Prod.mk.injEq] at q
      obtain ⟨rfl, rfl⟩ := q
      refine k m E G0 G e σ H false e1 _ R h1 fun G' H' R' S' => ?_
      show if false = true then _ else _
      (rw [if_neg Bool.false_ne_true])
      exact P G' H' R' S'
theorem wd_or (h : TD X a f) (h2 : WD X (.BoolOp .Or (b :: rest) pos) g) : WD X (.BoolOp .Or (a :: b :: rest) pos) (t_or f g) := by
  obtain ⟨t, p, k⟩ := h
  obtain ⟨t2, p2, k2⟩ := h2
  refine ⟨_, pw_or p p2, fun m E G0 G e σ H c e' Q R q P => ?_⟩
  unfold t_or at q
  cases h1 : f e with
  | none => simp only [h1] at q; cases q
  | some z =>
    obtain ⟨b1, e1⟩ := z
    cases b1 with
    | false =>
      simp only [h1] at q
      refine k m E G0 G e σ H false e1 _ R h1 fun G' H' R' S' => ?_
      show if false = true then _ else _
      (rw [if_neg Bool.false_ne_true])
      exact k2 m E G0 G' e1 σ H' c e' Q R' q fun G2 H2 R2 S2 => P G2 H2 R2 (S'.trans S2)
    | true =>
      simp only [h1, Option.some.injEq, Prod.mk.injEq] at q
      obtain ⟨rfl, rfl⟩ := q
      refine k m E G0 G e σ H true e1 _ R h1 fun G' H' R' S' => ?_
      show if true = true then _ else _
      rw [if_pos rfl]
      exact P G' H' R' S'
theorem WD.td {x : Expr} (h : WD X x f) : TD X x f := by
  obtain ⟨t, p, k⟩ := h
  exact ⟨t, p.pt, k⟩
/-! and, or, not as values: bools -/
def x_and (f g : Fe) : Fe := fun e => match f e with
  | some (.im (.bool true), e1) => g e1
  | some (.im (.bool false), e1) => some (.im (.bool false), e1)
  | _ => none
def x_or (f g : Fe) : Fe := fun e => match f e with
  | some (.im (.bool true), e1) => some (.im (.bool true), e1)
  | some (.im (.bool false), e1) => g e1
  | _ => none
def x_not (f : Fe) : Fe := fun e => match f e with
  | some (.im (.bool b), e1) => some (.im (.bool !b), e1)
  | _ => none
theorem ed_one {op : BoolOp} {f : Fe} (h : ED X a f) : ED X (.BoolOp op [a] pos) f := by
  obtain ⟨t, p, k⟩ := h
  exact ⟨t, pe_one p, k⟩
theorem ed_and (h : ED X a fa) (h2 : ED X (.BoolOp .And (b :: rest) pos) fb) : ED X (.BoolOp .And (a :: b :: rest) pos) (x_and fa fb) := by
  obtain ⟨t, p, k⟩ := h
  obtain ⟨t2, p2, k2⟩ := h2
  refine ⟨_, pe_and p p2, fun m E G0 G e σ H r e' Q R q P => ?_⟩
  unfold x_and at q
  split at q
  · rename_i e1 h1
    refine k m E G0 G e σ H _ e1 _ R h1 fun v G' H' R' S' V' _ => ?_
    cases V'
    refine ⟨true, rfl, ?_⟩
    rw [if_pos rfl]
    exact k2 m E G0 G' e1 σ H' r e' Q R' q (P.aft S')
  · rename_i e1 h1
    cases q
    refine k m E G0 G e σ H _ _ _ R h1 fun v G' H' R' S' V' _ => ?_
    cases V'
    refine ⟨false, rfl, ?_⟩
    (rw [if_neg Bool.false_ne_true])
    exact P _ G' H' R' S' (.bl false) True.intro
  · cases q
theorem ed_or (h : ED X a fa) (h2 : ED X (.BoolOp .Or (b :: rest) pos) fb) : ED X (.BoolOp .Or (a :: b :: rest) pos) (x_or fa fb) := by
  obtain ⟨t, p, k⟩ := h
  obtain ⟨t2, p2, k2⟩ := h2
  refine ⟨_, pe_or p p2, fun m E G0 G e σ H r e' Q R q P => ?_⟩
  unfold x_or at q
  split at q
  · rename_i e1 h1
    cases q
    refine k m E G0 G e σ H _ _ _ R h1 fun v G' H' R' S' V' _ => ?_
    cases V'
    refine ⟨true, rfl, ?_⟩
    rw [if_pos rfl]
    exact P _ G' H' R' S' (.bl true) True.intro
  · rename_i e1 h1
    refine k m E G0 G e σ H _ e1 _ R h1 fun v G' H' R' S' V' _ => ?_
    cases V'
    refine ⟨false, rfl, ?_⟩
    (rw [if_neg Bool.false_ne_true])
    exact k2 m E G0 G' e1 σ H' r e' Q R' q (P.aft S')
  · cases q
theorem ed_not (h : ED X a fa) : ED X (.UnaryOp .Not a pos) (x_not fa) := by
  obtain ⟨t, p, k⟩ := h
  refine ⟨_, pe_not p, fun m E G0 G e σ H r e' Q R q P => ?_⟩
  unfold x_not at q
  split at q
  · rename_i b e1 h1
    cases q
    refine k m E G0 G e σ H _ _ _ R h1 fun v G' H' R' S' V' _ => ?_
    cases V'
    exact ⟨b, rfl, P _ G' H' R' S' (.bl (!b)) True.intro⟩
  · cases q
def x_if (c : Ft) (f g : Fe) : Fe := fun e => match c e with
  | some (true, e1) => f e1
  | some (false, e1) => g e1
  | none => none
theorem ed_if {cx : Expr} (hc : TD X cx f) (ha : ED X a fa) (hb : ED X b fb) : ED X (.IfExp cx a b pos) (x_if f fa fb) := by
  obtain ⟨t, p, k⟩ := hc
  obtain ⟨t1, p1, k1⟩ := ha
  obtain ⟨t2, p2, k2⟩ := hb
  refine ⟨_, pe_ifExp p p1 p2, fun m E G0 G e σ H r e' Q R q P => ?_⟩
  unfold x_if at q
  split at q
  · rename_i e1 h1
    refine k m E G0 G e σ H true e1 _ R h1 fun G' H' R' S' => ?_
    rw [if_pos rfl]
    exact k1 m E G0 G' e1 σ H' r e' Q R' q (P.aft S')
  · rename_i e1 h1
    refine k m E G0 G e σ H false e1 _ R h1 fun G' H' R' S' => ?_
    (rw [if_neg Bool.false_ne_true])
    exact k2 m E G0 G' e1 σ H' r e' Q R' q (P.aft S')
  · cases q
/-! a op b op' c -/
def x_chain (φ ψ : PyData → PyData → Option Rs) (fa fb fc : Fe) : Fe := fun e => match two fa fb e with
  | some p => (match look2 p with
    | some (a, b, e2) => (match φ a b with
      | some (.im (.bool true)) => (match fc e2 with
        | some (rc, e3) => (match lookR e3 p.2.1, lookR e3 (frzR rc) with
          | some b, some c => (match ψ b c with
            | some r => some (r, e3)
            | none => none)
          | _, _ => none)
        | none => none)
      | some (.im (.bool false)) => some (.im (.bool false), e2)
      | _ => none)
    | none => none)
  | none => none
theorem chain_ok {ta tb tc : TE} (hv : VB X.K r φ) (hv' : VB X.K r' ψ) (k2 : ∀ (m : Option Addr) (E G0 G : Hp) (e : Ev) (σ : St) (H : Hp) (ra rb : Rs) (e' : Ev) (R : V → V → Hp → Prop),
    Rl X.K m E G0 G e σ H → two fa fb e = some (ra, rb, e') → (∀ u v G' H', Rl X.K m E G0 G' e' σ H' → Stp σ G H e G' H' e' → Vr X.K E G' H' σ e' u ra → Vr X.K E G' H' σ e' v rb → R u v H') → ta σ H fun x H1 => tb σ H1 fun y H2 => R x y H2)
    (k3 : ∀ (m : Option Addr) (E G0 G : Hp) (e : Ev) (σ : St) (H : Hp) (r : Rs) (e' : Ev) (Q : VK), Rl X.K m E G0 G e σ H → fc e = some (r, e') → Po X.K m E G0 σ G H e r e' Q → tc σ H Q)
    (m : Option Addr) (E G0 G : Hp) (e : Ev) (σ : St) (H : Hp) (rr : Rs) (e' : Ev) (Q : VK) (R : Rl X.K m E G0 G e σ H) (q : x_chain φ ψ fa fb fc e = some (rr, e')) (P : Po X.K m E G0 σ G H e rr e' Q) : tChain r r' ta tb tc σ H Q := by
  unfold x_chain at q
  cases h1 : two fa fb e with
  | none => simp only [h1] at q; cases q
  | some p =>
    obtain ⟨ra, rb, e2⟩ := p
    simp only [h1] at q
    cases h2 : look2 (ra, rb, e2) with
    | none => simp only [h2] at q; cases q
    | some z =>
      obtain ⟨da, db, e3⟩ := z
      simp only [h2] at q
      have hl : lookR e2 ra = some da ∧ lookR e2 rb = some db ∧ e2 = e3 := by
        unfold look2 at h2
        dsimp only at h2
        cases h4 : lookR e2 ra with
        | none => simp only [h4] at h2; cases h2
        | some d1 =>
          cases h5 : lookR e2 rb with
          | none => simp only [h4, h5] at h2; cases h2
          | some d2 =>
            simp only [h4, h5, Option.some.injEq, Prod.mk.injEq] at h2
            obtain ⟨rfl, rfl, rfl⟩ := h2
            exact ⟨rfl, rfl, rfl⟩
      obtain ⟨l1, l2, rfl⟩ := hl
      refine k2 m E G0 G e σ H ra rb e2 _ R h1 fun u v G' H' R' S' V1 V2 => ?_
      split at q
      · rename_i h3
        refine hv m E G0 G' e2 σ H' u v _ _ _ _ R' (R'.look V1 l1) (R'.look V2 l2) h3 fun w G3 H3 R3 S3 V3 _ => ?_
        cases V3
        refine ⟨true, rfl, ?_⟩
        rw [if_pos rfl]
        cases h4 : fc e2 with
        | none => simp only [h4] at q; cases q
        | some z =>
          obtain ⟨rc, e4⟩ := z
          simp only [h4] at q
          refine k3 m E G0 G3 e2 σ H3 rc e4 _ R3 h4 fun w2 G4 H4 R4 S4 V4 N4 => ?_
          obtain ⟨G5, R5, S5, s5, V5⟩ := R4.freeze S4 V4 N4
          cases h5 : lookR e4 rb with
          | none => simp only [h5] at q; cases q
          | some d5 =>
            cases h6 : lookR e4 (frzR rc) with
            | none => simp only [h5, h6] at q; cases q
            | some d6 =>
              simp only [h5, h6] at q
              cases h7 : ψ d5 d6 with
              | none => simp only [h7] at q; cases q
              | some r7 =>
                simp only [h7, Option.some.injEq, Prod.mk.injEq] at q
                obtain ⟨rfl, rfl⟩ := q
                exact hv' m E G0 G5 e4 σ H4 v w2 _ _ _ Q R5 (R5.look ((V2.stp S3).stp S5) h5) (R5.look V5 h6) h7 (P.aft (S'.trans (S3.trans S5)))
      · rename_i h3
        cases q
        refine hv m E G0 G' _ σ H' u v _ _ _ _ R' (R'.look V1 l1) (R'.look V2 l2) h3 fun w G3 H3 R3 S3 V3 _ => ?_
        cases V3
        refine ⟨false, rfl, ?_⟩
        (rw [if_neg Bool.false_ne_true])
        exact P _ G3 H3 R3 (S'.trans S3) (.bl false) True.intro
      · cases q
theorem ed_chain (hv : VB X.K r φ) (ho : OpR X (compareOp cop) r) (hv' : VB X.K r' ψ) (ho' : OpR X (compareOp cop') r') (ha : ED X a fa) (hb : ED X b fb) (hc : ED X c fc)
    (hm : lastMarks [cop, cop'] [b, c] = false := by with_unfolding_all rfl) : ED X (.Compare a [cop, cop'] [b, c] pos) (x_chain φ ψ fa fb fc) := by
  obtain ⟨ta, tb, pa, pb, k2⟩ := two_ok ha hb
  obtain ⟨tc, pc, k3⟩ := hc
  exact ⟨_, pe_chain ho ho' pa pb pc hm, chain_ok hv hv' k2 k3⟩
theorem td_chain (hv : VB X.K r φ) (ho : OpR X (compareOp cop) r) (hv' : VB X.K r' ψ) (ho' : OpR X (compareOp cop') r') (ha : ED X a fa) (hb : ED X b fb) (hc : ED X c fc)
    (hm : lastMarks [cop, cop'] [b, c] = false := by with_unfolding_all rfl) : TD X (.Compare a [cop, cop'] [b, c] pos) (t_of (x_chain φ ψ fa fb fc)) := by
  obtain ⟨ta, tb, pa, pb, k2⟩ := two_ok ha hb
  obtain ⟨tc, pc, k3⟩ := hc
  refine ⟨_, pt_chain ho ho' pa pb pc hm, fun m E G0 G e σ H k e' Q R q P => ?_⟩
  exact chain_ok hv hv' k2 k3 m E G0 G e σ H _ e' _ R (t_of_ok q) fun v G' H' R' S' V' _ => by
    cases V'
    exact ⟨k, rfl, P G' H' R' S'⟩
end
end DL
namespace DL
open L2 PySem PySem.Spec PyProof.Rows

/-! ### rules over data: ints -/
def d_int2 (f : Int → Int → PyData) (c : Int → Int → Bool) : PyData → PyData → Option PyData
  | .int i, .int j => if c i j = true then some (f i j) else none
  | _, _ => none
section
variable {K : PySem.W.Frag} {G H : Hp} {v : V} {d : PyData} {ds : List PyData} {vs ws : List V}
theorem int2_ok {f : Int → Int → PyData} {c : Int → Int → Bool} {dx dy d : PyData} (h : d_int2 f c dx dy = some d) : ∃ i j, dx = .int i ∧ dy = .int j ∧ c i j = true ∧ d = f i j := by
  unfold d_int2 at h
  split at h
  · rename_i i j
    by_cases z : c i j = true
    · rw [if_pos z] at h
      cases h
      exact ⟨i, j, rfl, rfl, z, rfl⟩
    · rw [if_neg z] at h
      cases h
  · cases h
theorem vb_int {C : Int → Int → Prop} {g : Int → Int → Int} {c : Int → Int → Bool} (hc : ∀ i j, c i j = true → C i j) : VB K (rI C fun i j => .int (g i j)) (fun a b => (d_int2 (fun i j => .int (g i j)) c a b).map Rs.im) :=
  VB.pure fun G H x y dx dy d Q s lx ly h k => by
    obtain ⟨i, j, rfl, rfl, z, rfl⟩ := int2_ok h
    exact ⟨i, j, lx.int, ly.int, hc i j z, k _ (.int _)⟩
theorem vb_int0 {g : Int → Int → Int} : VB K (rI0 fun i j => .int (g i j)) (fun a b => (d_int2 (fun i j => .int (g i j)) (fun _ _ => true) a b).map Rs.im) :=
  VB.pure fun G H x y dx dy d Q s lx ly h k => by
    obtain ⟨i, j, rfl, rfl, z, rfl⟩ := int2_ok h
    exact ⟨i, j, lx.int, ly.int, k _ (.int _)⟩
theorem vb_cmp0 {g : Int → Int → Bool} : VB K (rI0 fun i j => .bl (g i j)) (fun a b => (d_int2 (fun i j => .bool (g i j)) (fun _ _ => true) a b).map Rs.im) :=
  VB.pure fun G H x y dx dy d Q s lx ly h k => by
    obtain ⟨i, j, rfl, rfl, z, rfl⟩ := int2_ok h
    exact ⟨i, j, lx.int, ly.int, k _ (.bl _)⟩
end
def p_sub : PyData → PyData → Option Rs := fun a b => (d_int2 (fun i j => .int (i - j)) (fun _ _ => true) a b).map Rs.im
def p_lt : PyData → PyData → Option Rs := fun a b => (d_int2 (fun i j => .bool (decide (i < j))) (fun _ _ => true) a b).map Rs.im
def p_le : PyData → PyData → Option Rs := fun a b => (d_int2 (fun i j => .bool (decide (i ≤ j))) (fun _ _ => true) a b).map Rs.im
def p_gt : PyData → PyData → Option Rs := fun a b => (d_int2 (fun i j => .bool (decide (j < i))) (fun _ _ => true) a b).map Rs.im
def p_ge : PyData → PyData → Option Rs := fun a b => (d_int2 (fun i j => .bool (decide (j ≤ i))) (fun _ _ => true) a b).map Rs.im
/-- within 64 bits on one side -/
def mulC (i j : Int) : Bool := decide ((-18446744073709551616 < i ∧ i < 18446744073709551616) ∨ (-18446744073709551616 < j ∧ j < 18446744073709551616))
def mulWC (i j : Int) : Bool := decide (i.natAbs.log2 + j.natAbs.log2 < 1000000)
def p_mul : PyData → PyData → Option Rs := orF (fun a b => (d_int2 (fun i j => .int (i * j)) mulC a b).map Rs.im) (fun a b => (d_int2 (fun i j => .int (i * j)) mulWC a b).map Rs.im)
def divC (_ j : Int) : Bool := decide (0 < j ∧ j < 1073741824)
def p_div : PyData → PyData → Option Rs := fun a b => (d_int2 (fun i j => .int (i / j)) divC a b).map Rs.im
def p_mod : PyData → PyData → Option Rs := fun a b => (d_int2 (fun i j => .int (i % j)) (fun _ j => decide (0 < j)) a b).map Rs.im
def powC (i j : Int) : Bool := decide (0 ≤ j ∧ j ≤ 1000000 ∧ i.natAbs < 18446744073709551616)
def p_pow : PyData → PyData → Option Rs := fun a b => (d_int2 (fun i j => .int (i ^ j.toNat)) powC a b).map Rs.im
section
variable {X : Cx}
theorem vb_sub : VB X.K (rI0 fun i j => .int (i - j)) p_sub := vb_int0
theorem vb_lt : VB X.K (rI0 fun i j => .bl (decide (i < j))) p_lt := vb_cmp0
theorem vb_le : VB X.K (rI0 fun i j => .bl (decide (i ≤ j))) p_le := vb_cmp0
theorem vb_gt : VB X.K (rI0 fun i j => .bl (decide (j < i))) p_gt := vb_cmp0
theorem vb_ge : VB X.K (rI0 fun i j => .bl (decide (j ≤ i))) p_ge := vb_cmp0
theorem mulC_ok {i j : Int} (h : mulC i j = true) : CMul i j := by
  have h1 := of_decide_eq_true h
  unfold CMul
  have e : (2 : Int) ^ 64 = 18446744073709551616 := by decide
  rw [e]
  exact h1
theorem vb_mul : VB X.K (fun x y H Q => (rI CMul fun i j => .int (i * j)) x y H Q ∨ (rI CMulW fun i j => .int (i * j)) x y H Q) p_mul :=
  VB.or (vb_int fun i j z => mulC_ok z) (vb_int fun i j z => (of_decide_eq_true z : i.natAbs.log2 + j.natAbs.log2 < 1000000))
theorem op_mul2 : OpR X (binaryOp .Mult) (fun x y H Q => (rI CMul fun i j => .int (i * j)) x y H Q ∨ (rI CMulW fun i j => .int (i * j)) x y H Q) := OpR.or op_mul op_mulW
theorem vb_div : VB X.K (rI CDiv fun i j => .int (i / j)) p_div := vb_int fun i j z => by
  have h := of_decide_eq_true z
  exact h
theorem vb_mod : VB X.K (rI (fun _ j => 0 < j) fun i j => .int (i % j)) p_mod := vb_int fun i j z => of_decide_eq_true z
theorem vb_pow : VB X.K (rI CPow fun i j => .int (i ^ j.toNat)) p_pow := vb_int fun i j z => by
  have h := of_decide_eq_true z
  have e : (2 : Nat) ^ 64 = (18446744073709551616) := by decide
  unfold CPow
  rw [e]
  exact h
end

/-! ### sequences -/
def okLen (n : Nat) : Bool := decide (n ≤ 16777216)
theorem okLen_ok {n : Nat} (h : okLen n = true) : n ≤ sizeLine := by
  have h1 := of_decide_eq_true h
  rw [sizeLine_eq]
  exact h1
def rCatS (K : PySem.W.Frag) : R2 := fun x y H Q => ∃ a b xs zs, x = .ref a ∧ y = .ref b ∧ SqL K H a xs ∧ SqL K H b zs ∧ xs.length + zs.length ≤ sizeLine ∧ ∀ p, H p = none → Q (.ref p) (upd H p (.lst (xs ++ zs)))
theorem op_catS {X : Cx} : OpR X (binaryOp .Add) (rCatS X.K) := by
  rintro pins s σ H _ _ v u Q I rx ry ⟨a, b, xs, zs, rfl, rfl, ha, hb, small, fin⟩
  cases rx
  cases ry
  obtain ⟨us, va, ⟨⟨c1, d1, t1, sl1⟩, n1, at1, o1, _, p1⟩, z1⟩ := I.list ha
  obtain ⟨ws, vb, ⟨⟨c2, d2, t2, sl2⟩, n2, at2, o2, _, p2⟩, z2⟩ := I.list hb
  dsimp only at o1 p1 o2 p2
  subst o1 p1 o2 p2
  have la := va.length
  have lb := vb.length
  have fits : (xs ++ zs).length ≤ sizeLine := by
    rw [List.length_append]
    exact small
  have sum := PyProof.Rows.list_addW a b us.toArray ws.toArray n1 n2 d1 d2 sl1 sl2 (by simp only [List.size_toArray]; omega)
  refine concat_meets (T := "list") ⟨_, at1, rfl⟩ ⟨_, at2, rfl⟩ noFill_list_add seq_list_add F.slot_list_add F.entry_list_add (F.args_list_add_2 _ _) sum ⟨at1, at2, ?_⟩
  have laid := I.lnew (t' := s.toks) (va.append vb) fits
  rw [← List.append_toArray] at laid
  exact ⟨.ref s.heap.objs.size, _, laid, rfl, fin _ I.fresh⟩
def q_cat : PyData → PyData → Option Rs
  | .list a, .list b => if okLen (a.length + b.length) = true then some (.ac (a ++ b)) else none
  | _, _ => none
def q_catT : PyData → PyData → Option Rs
  | .tuple a, .tuple b => if okLen (a.length + b.length) = true then some (.im (.tuple (a ++ b))) else none
  | _, _ => none
def p_add : PyData → PyData → Option Rs := orF (fun a b => (d_int2 (fun i j => .int (i + j)) (fun _ _ => true) a b).map Rs.im) (orF q_cat q_catT)
section
variable {X : Cx}
theorem vb_cat {K : PySem.W.Frag} : VB K (rCatS K) q_cat := by
  intro m E G0 G e σ H x y dx dy rr Q R lx ly q P
  unfold q_cat at q
  split at q
  · rename_i a b
    by_cases z : okLen (a.length + b.length) = true
    · rw [if_pos z] at q
      cases q
      obtain ⟨p1, w1, rfl, s1, k1⟩ := lx.list R.gh
      obtain ⟨p2, w2, rfl, s2, k2⟩ := ly.list R.gh
      have z1 := okLen_ok z
      refine ⟨p1, p2, w1, w2, rfl, rfl, s1, s2, by rw [dpAll_len k1, dpAll_len k2]; exact z1, fun p hp => ?_⟩
      obtain ⟨R', S', V', N'⟩ := R.newL hp (dpAll_app k1 k2)
      exact P _ _ _ R' S' V' N'
    · rw [if_neg z] at q
      cases q
  · cases q
theorem vb_catT {K : PySem.W.Frag} : VB K (rCatA K) q_catT := by
  intro m E G0 G e σ H x y dx dy rr Q R lx ly q P
  unfold q_catT at q
  split at q
  · rename_i a b
    by_cases z : okLen (a.length + b.length) = true
    · rw [if_pos z] at q
      cases q
      obtain ⟨p1, w1, e1, s1, k1⟩ := lx.tup R.gh
      obtain ⟨p2, w2, e2, s2, k2⟩ := ly.tup R.gh
      have z1 := okLen_ok z
      refine ⟨p1, p2, w1, w2, e1, e2, s1, s2, by rw [dpAll_len k1, dpAll_len k2]; exact z1, fun h => ?_, fun h1 h2 => ?_, fun _ _ p hp => ?_⟩
      · have ea : a = [] := by
          subst h
          cases k1
          rfl
        subst ea
        rcases ly with ly | ⟨_, _, _, _, z, _⟩
        · rw [← e2]
          exact P.now R ly True.intro
        · cases z
      · have eb : b = [] := by
          subst h2
          cases k2
          rfl
        subst eb
        rcases lx with lx | ⟨_, _, _, _, z, _⟩
        · rw [← e1, List.append_nil] at *
          exact P.now R lx True.intro
        · cases z
      · obtain ⟨R', S', D'⟩ := R.newT hp (dpAll_app k1 k2)
        exact P _ _ _ R' S' D' True.intro
    · rw [if_neg z] at q
      cases q
  · cases q
theorem vb_add : VB X.K (fun x y H Q => (rI0 fun i j => .int (i + j)) x y H Q ∨ (rCatS X.K x y H Q ∨ rCatA X.K x y H Q)) p_add := VB.or vb_int0 (VB.or vb_cat vb_catT)
theorem op_add3 : OpR X (binaryOp .Add) (fun x y H Q => (rI0 fun i j => .int (i + j)) x y H Q ∨ (rCatS X.K x y H Q ∨ rCatA X.K x y H Q)) := OpR.or op_add (OpR.or op_catS op_catA)
end

/-! ### ==, !=, in, is -/
def p_eq : PyData → PyData → Option Rs := fun a b => if (SeqAt.shaped a && SeqAt.shaped b) = true then some (.im (.bool (PyData.eqv a b))) else none
def p_ne : PyData → PyData → Option Rs := fun a b => if (SeqAt.shaped a && SeqAt.shaped b) = true then some (.im (.bool (!PyData.eqv a b))) else none
def flatD : PyData → Bool
  | .none => true
  | .bool _ => true
  | .int _ => true
  | .str _ => true
  | _ => false
def inD (x : PyData) (ds : List PyData) : Bool := ds.any fun y => PyData.eqv y x
def seqD : PyData → Option (List PyData)
  | .list ds => some ds
  | .tuple ds => some ds
  | _ => none
def p_inB (neg : Bool) : PyData → PyData → Option Rs := fun x y => match seqD y with
  | some ds => if (flatD x && ds.all flatD) = true then some (.im (.bool (if neg = true then !inD x ds else inD x ds))) else none
  | none => none
abbrev p_in := p_inB false
abbrev p_notin := p_inB true
def p_isN (neg : Bool) : PyData → PyData → Option PyData
  | .none, .none => some (.bool (!neg))
  | .list _, .none => some (.bool neg)
  | .tuple _, .none => some (.bool neg)
  | .bool _, .none => some (.bool neg)
  | .int _, .none => some (.bool neg)
  | .str _, .none => some (.bool neg)
  | _, _ => none
def p_isB (neg : Bool) : PyData → PyData → Option PyData
  | .bool a, .bool b => some (.bool (if neg = true then !(decide (a = b)) else decide (a = b)))
  | _, _ => none
def p_is : PyData → PyData → Option Rs := orF (fun a b => (p_isN false a b).map Rs.im) (fun a b => (p_isB false a b).map Rs.im)
def p_isnot : PyData → PyData → Option Rs := orF (fun a b => (p_isN true a b).map Rs.im) (fun a b => (p_isB true a b).map Rs.im)
section
variable {X : Cx} {K : PySem.W.Frag}
theorem shp {a b : PyData} (h : (SeqAt.shaped a && SeqAt.shaped b) = true) : SeqAt.shaped a = true ∧ SeqAt.shaped b = true := Bool.and_eq_true_iff.mp h
theorem vb_eq : VB K (rEqD K) p_eq := by
  intro m E G0 G e σ H x y dx dy rr Q R lx ly q P
  unfold p_eq at q
  by_cases z : (SeqAt.shaped dx && SeqAt.shaped dy) = true
  · rw [if_pos z] at q
    cases q
    exact ⟨dx, dy, lx.dp R.gh, ly.dp R.gh, (shp z).1, (shp z).2, P.now R (.bl _) True.intro⟩
  · rw [if_neg z] at q
    cases q
theorem vb_ne : VB K (rNeD K) p_ne := by
  intro m E G0 G e σ H x y dx dy rr Q R lx ly q P
  unfold p_ne at q
  by_cases z : (SeqAt.shaped dx && SeqAt.shaped dy) = true
  · rw [if_pos z] at q
    cases q
    exact ⟨dx, dy, lx.dp R.gh, ly.dp R.gh, (shp z).1, (shp z).2, P.now R (.bl _) True.intro⟩
  · rw [if_neg z] at q
    cases q
theorem dp_flat {G : Hp} {v : V} {d : PyData} (h : Dp K G v d) (f : flatD d = true) : flatV v = true := by
  cases h with
  | lst _ _ => cases f
  | tup _ _ => cases f
  | _ => rfl
theorem dp_eqV {G : Hp} {u v : V} {c d : PyData} (h1 : Dp K G u c) (h2 : Dp K G v d) (f1 : flatD c = true) (f2 : flatD d = true) : eqV u v = PyData.eqv c d := by
  cases h1 <;> cases h2 <;> first
    | (cases f1; done)
    | (cases f2; done)
    | rfl
    | (simp only [eqV, PyData.eqv]; done)
theorem flat_all {G : Hp} : ∀ {vs : List V} {ds : List PyData}, DpAll K G vs ds → ds.all flatD = true → vs.all flatV = true
  | _, _, .nil, _ => rfl
  | _, _, .cons h t, f => by
    rw [List.all_cons, Bool.and_eq_true] at f ⊢
    exact ⟨dp_flat h f.1, flat_all t f.2⟩
theorem in_all {G : Hp} {v : V} {d : PyData} (h : Dp K G v d) (f : flatD d = true) : ∀ {vs : List V} {ds : List PyData}, DpAll K G vs ds → ds.all flatD = true → inV v vs = inD d ds
  | _, _, .nil, _ => rfl
  | _, _, .cons h2 t, f2 => by
    rw [List.all_cons, Bool.and_eq_true] at f2
    have e := in_all h f t f2.2
    unfold inV inD at e ⊢
    rw [List.any_cons, List.any_cons, dp_eqV h2 h f2.1 f, e]
theorem vb_inB {neg : Bool} : VB K (rIn K neg) (p_inB neg) := by
  intro m E G0 G e σ H x y dx dy rr Q R lx ly q P
  unfold p_inB at q
  cases h : seqD dy with
  | none => simp only [h] at q; cases q
  | some ds =>
    simp only [h] at q
    by_cases z : (flatD dx && ds.all flatD) = true
    · rw [if_pos z] at q
      cases q
      obtain ⟨f1, f2⟩ := Bool.and_eq_true_iff.mp z
      have hx : Dp K G x dx := by
        rcases lx with lx | ⟨_, _, _, _, e, _⟩
        · exact lx
        · subst e
          cases f1
      have hs : ∃ p ws, y = .ref p ∧ (SqL K H p ws ∨ SqT K H p ws) ∧ DpAll K G ws ds := by
        unfold seqD at h
        split at h
        · cases h
          obtain ⟨p, ws, e, s1, k⟩ := ly.list R.gh
          exact ⟨p, ws, e, .inl s1, k⟩
        · cases h
          obtain ⟨p, ws, e, s1, k⟩ := ly.tup R.gh
          exact ⟨p, ws, e, .inr s1, k⟩
        · cases h
      obtain ⟨p, ws, e, s1, k⟩ := hs
      have ei := in_all hx f1 k f2
      refine ⟨p, ws, e, s1, dp_flat hx f1, flat_all k f2, ?_⟩
      rw [ei]
      cases neg with
      | true => exact P.now R (.bl _) True.intro
      | false => exact P.now R (.bl _) True.intro
    · rw [if_neg z] at q
      cases q
theorem lv_non {G H : Hp} {v : V} {d : PyData} (h : Lv K G H v d) : d = .none ∨ v ≠ .non := by
  rcases h with h | ⟨p, ws, ds, rfl, rfl, _⟩
  · cases h with
    | non => exact .inl rfl
    | _ => exact .inr fun z => by cases z
  · exact .inr fun z => by cases z
theorem isN_ok {neg : Bool} {a b d : PyData} {G H : Hp} {x y : V} (h : p_isN neg a b = some d) (lx : Lv K G H x a) (ly : Lv K G H y b) : y = .non ∧ d = .bool (if neg = true then !decide (x = .non) else decide (x = .non)) := by
  have hx := lv_non lx
  unfold p_isN at h
  split at h
  · have e := lx.none
    cases h
    subst e
    refine ⟨ly.none, ?_⟩
    cases neg <;> rfl
  all_goals first
    | (cases h
       refine ⟨ly.none, ?_⟩
       have z : x ≠ .non := by
         rcases hx with z | z
         · cases z
         · exact z
       rw [decide_eq_false z]
       cases neg <;> rfl)
    | (cases h; done)
theorem vb_is : VB K (fun x y H Q => (y = .non ∧ Q (.bl (decide (x = .non))) H) ∨ rIsB x y H Q) p_is :=
  VB.or (VB.pure fun G H x y dx dy d Q s lx ly h k => by
      obtain ⟨e1, rfl⟩ := isN_ok h lx ly
      exact ⟨e1, k _ (.bl _)⟩)
    (VB.pure fun G H x y dx dy d Q s lx ly h k => by
      unfold p_isB at h
      split at h
      · cases h
        exact ⟨_, _, lx.bool, ly.bool, k _ (.bl _)⟩
      · cases h)
theorem vb_isnot : VB K (fun x y H Q => (y = .non ∧ Q (.bl (!decide (x = .non))) H) ∨ rNotB x y H Q) p_isnot :=
  VB.or (VB.pure fun G H x y dx dy d Q s lx ly h k => by
      obtain ⟨e1, rfl⟩ := isN_ok h lx ly
      exact ⟨e1, k _ (.bl _)⟩)
    (VB.pure fun G H x y dx dy d Q s lx ly h k => by
      unfold p_isB at h
      split at h
      · cases h
        exact ⟨_, _, lx.bool, ly.bool, k _ (.bl _)⟩
      · cases h)
theorem op_is2 : OpR X (compareOp .Is) (fun x y H Q => (y = .non ∧ Q (.bl (decide (x = .non))) H) ∨ rIsB x y H Q) := OpR.or op_isN op_isBl
theorem op_isnot2 : OpR X (compareOp .IsNot) (fun x y H Q => (y = .non ∧ Q (.bl (!decide (x = .non))) H) ∨ rNotB x y H Q) := OpR.or op_notN op_notBl
end
end DL
namespace DL
open L2 PySem PySem.Spec PyProof.Rows

/-! ### argument lists, displays -/
def a_nil : Fa := fun e => some ([], e)
def a_cons (fa : Fe) (fr : Fa) : Fa := fun e => match fa e with
  | some (r, e1) => (match fr e1 with
    | some (rs, e2) => some (frzR r :: rs, e2)
    | none => none)
  | none => none
section
variable {X : Cx} {a : Expr} {es : List Expr} {fa : Fe} {fr : Fa} {pos : Pos}
theorem ad_nil : AD X [] a_nil := ⟨_, pa_nil, fun m E G0 G e σ H rs e' Q R q P => by
  cases q
  exact P [] G H R Stp.refl True.intro⟩
theorem ad_cons (ha : ED X a fa) (hr : AD X es fr) (hs : starEach (a :: es) X.env = (false, eval a X.env) :: starEach es X.env := by rfl) : AD X (a :: es) (a_cons fa fr) := by
  obtain ⟨t, p, k⟩ := ha
  obtain ⟨t2, p2, k2⟩ := hr
  refine ⟨_, pa_cons p p2 hs, fun m E G0 G e σ H rs e' Q R q P => ?_⟩
  unfold a_cons at q
  cases h1 : fa e with
  | none => simp only [h1] at q; cases q
  | some z =>
    obtain ⟨r, e1⟩ := z
    simp only [h1] at q
    cases h2 : fr e1 with
    | none => simp only [h2] at q; cases q
    | some z2 =>
      obtain ⟨rs2, e2⟩ := z2
      simp only [h2, Option.some.injEq, Prod.mk.injEq] at q
      obtain ⟨rfl, rfl⟩ := q
      refine k m E G0 G e σ H r e1 _ R h1 fun v G1 H1 R1 S1 V1 N1 => ?_
      obtain ⟨G1', R1', S1', s1, V1'⟩ := R1.freeze S1 V1 N1
      refine k2 m E G0 G1' e1 σ H1 rs2 e2 _ R1' h2 fun vs G2 H2 R2 S2 V2 => ?_
      exact P (v :: vs) G2 H2 R2 (S1'.trans S2) ⟨V1'.stp S2, V2⟩
end
/-- all arguments, as data -/
def argsD (fa : Fa) : Ev → Option (List PyData × Ev) := fun e => match fa e with
  | some (rs, e1) => (match lookAll e1 rs with
    | some ds => some (ds, e1)
    | none => none)
  | none => none
theorem argsD_ok {fa : Fa} {e e' : Ev} {ds : List PyData} (q : argsD fa e = some (ds, e')) : ∃ rs, fa e = some (rs, e') ∧ lookAll e' rs = some ds := by
  unfold argsD at q
  split at q
  · rename_i rs e1 h1
    split at q
    · rename_i ds2 h2
      cases q
      exact ⟨rs, h1, h2⟩
    · cases q
  · cases q
/-- every one of them is frozen data (no list of one's own) -/
def imR : Rs → Option PyData
  | .im d => some d
  | _ => none
def imAll : List Rs → Option (List PyData)
  | [] => some []
  | r :: rs => match imR r with
    | some d => (match imAll rs with
      | some ds => some (d :: ds)
      | none => none)
    | none => none
theorem vr_imAll {K : PySem.W.Frag} {E G H : Hp} {σ : St} {e : Ev} : ∀ {vs : List V} {rs : List Rs} {ds : List PyData}, VrAll K E G H σ e vs rs → imAll rs = some ds → DpAll K G vs ds
  | [], [], ds, _, q => by
    cases q
    exact .nil
  | v :: vs, r :: rs, ds, h, q => by
    simp only [imAll] at q
    cases r with
    | im d =>
      simp only [imR] at q
      cases h2 : imAll rs with
      | none => simp only [h2] at q; cases q
      | some ds2 =>
        simp only [h2, Option.some.injEq] at q
        subst q
        exact .cons h.1 (vr_imAll h.2 h2)
    | ac _ => simp only [imR] at q; cases q
    | br _ => simp only [imR] at q; cases q
  | [], _ :: _, _, h, _ => h.elim
  | _ :: _, [], _, h, _ => h.elim
def argsI (fa : Fa) : Ev → Option (List PyData × Ev) := fun e => match fa e with
  | some (rs, e1) => (match imAll rs with
    | some ds => some (ds, e1)
    | none => none)
  | none => none
theorem argsI_ok {fa : Fa} {e e' : Ev} {ds : List PyData} (q : argsI fa e = some (ds, e')) : ∃ rs, fa e = some (rs, e') ∧ imAll rs = some ds := by
  unfold argsI at q
  split at q
  · rename_i rs e1 h1
    split at q
    · rename_i ds2 h2
      cases q
      exact ⟨rs, h1, h2⟩
    · cases q
  · cases q
def x_tup (fa : Fa) : Fe := fun e => match argsI fa e with
  | some (ds, e1) => if okLen ds.length = true then some (.im (.tuple ds), e1) else none
  | none => none
def x_lst (fa : Fa) : Fe := fun e => match argsI fa e with
  | some (ds, e1) => if okLen ds.length = true then some (.ac ds, e1) else none
  | none => none
section
variable {X : Cx} {es : List Expr} {fa : Fa} {pos : Pos}
theorem ed_tup {n} (h : AD X es fa) : ED X (.Tuple es n pos) (x_tup fa) := by
  obtain ⟨t, p, k⟩ := h
  refine ⟨_, pe_tup p, fun m E G0 G e σ H r e' Q R q P => ?_⟩
  unfold x_tup at q
  cases h1 : argsI fa e with
  | none => simp only [h1] at q; cases q
  | some z =>
    obtain ⟨ds, e1⟩ := z
    simp only [h1] at q
    by_cases z : okLen ds.length = true
    · rw [if_pos z] at q
      simp only [Option.some.injEq, Prod.mk.injEq] at q
      obtain ⟨rfl, rfl⟩ := q
      obtain ⟨rs, q1, q2⟩ := argsI_ok h1
      refine k m E G0 G e σ H rs e1 _ R q1 fun vs G1 H1 R1 S1 V1 => ?_
      have dv := vr_imAll V1 q2
      refine ⟨by rw [dpAll_len dv]; exact okLen_ok z, fun p hp => ?_⟩
      obtain ⟨R', S', D'⟩ := R1.newT hp dv
      exact P _ _ _ R' (S1.trans S') D' True.intro
    · rw [if_neg z] at q
      cases q
theorem ed_lst (h : AD X es fa) : ED X (.List es pos) (x_lst fa) := by
  obtain ⟨t, p, k⟩ := h
  refine ⟨_, pe_lst p, fun m E G0 G e σ H r e' Q R q P => ?_⟩
  unfold x_lst at q
  cases h1 : argsI fa e with
  | none => simp only [h1] at q; cases q
  | some z =>
    obtain ⟨ds, e1⟩ := z
    simp only [h1] at q
    by_cases z : okLen ds.length = true
    · rw [if_pos z] at q
      simp only [Option.some.injEq, Prod.mk.injEq] at q
      obtain ⟨rfl, rfl⟩ := q
      obtain ⟨rs, q1, q2⟩ := argsI_ok h1
      refine k m E G0 G e σ H rs e1 _ R q1 fun vs G1 H1 R1 S1 V1 => ?_
      have dv := vr_imAll V1 q2
      refine ⟨by rw [dpAll_len dv]; exact okLen_ok z, fun p hp => ?_⟩
      obtain ⟨R', S', V', N'⟩ := R1.newL hp dv
      exact P _ _ _ R' (S1.trans S') V' (nw_back S1 _ N')
    · rw [if_neg z] at q
      cases q
/-- [..] * n -/
def x_rep (fa : Fa) (fb : Fe) : Fe := fun e => match argsI fa e with
  | some (ds, e1) => (match fb e1 with
    | some (.im (.int k), e2) => if (okLen ds.length && (decide (-9223372036854775808 ≤ k ∧ k < 9223372036854775808) && okLen (ds.length * k.toNat))) = true then some (.ac (List.replicate k.toNat ds).flatten, e2) else none
    | _ => none)
  | none => none
theorem ed_rep {b : Expr} {fb : Fe} {p1 : Pos} (h : AD X es fa) (hb : ED X b fb) : ED X (.BinOp (.List es p1) .Mult b pos) (x_rep fa fb) := by
  obtain ⟨t, p, k⟩ := h
  obtain ⟨t2, p2, k2⟩ := hb
  refine ⟨_, pe_op op_rep (pe_lst p) p2, fun m E G0 G e σ H r e' Q R q P => ?_⟩
  unfold x_rep at q
  cases h1 : argsI fa e with
  | none => simp only [h1] at q; cases q
  | some z =>
    obtain ⟨ds, e1⟩ := z
    simp only [h1] at q
    split at q
    · rename_i kk e2 h2
      by_cases z : (okLen ds.length && (decide (-9223372036854775808 ≤ kk ∧ kk < 9223372036854775808) && okLen (ds.length * kk.toNat))) = true
      · rw [if_pos z] at q
        simp only [Option.some.injEq, Prod.mk.injEq] at q
        obtain ⟨rfl, rfl⟩ := q
        obtain ⟨z1, z2⟩ := Bool.and_eq_true_iff.mp z
        obtain ⟨z2, z3⟩ := Bool.and_eq_true_iff.mp z2
        have z2 := of_decide_eq_true z2
        obtain ⟨rs, q1, q2⟩ := argsI_ok h1
        refine k m E G0 G e σ H rs e1 _ R q1 fun vs G1 H1 R1 S1 V1 => ?_
        have dv := vr_imAll V1 q2
        refine ⟨by rw [dpAll_len dv]; exact okLen_ok z1, fun p hp => ?_⟩
        obtain ⟨R', S', V', N'⟩ := R1.newL hp dv
        refine k2 m E G0 G1 e1 σ _ _ e2 _ R' h2 fun u G2 H2 R2 S2 V2 _ => ?_
        cases V2
        obtain ⟨p', ws', ep, _, g2, h3, d3, _⟩ := V'.stp S2
        cases ep
        refine ⟨_, kk, ws', rfl, rfl, h3, z2.1, z2.2, by rw [dpAll_len d3]; exact okLen_ok z3, fun p2 hp2 => ?_⟩
        obtain ⟨R3, S3, V3, N3⟩ := R2.newL hp2 (dpAll_rep d3 kk.toNat)
        exact P _ _ _ R3 (S1.trans (S'.trans (S2.trans S3))) V3 (nw_back (S1.trans (S'.trans S2)) _ N3)
      · rw [if_neg z] at q
        cases q
    · cases q
end

/-! ### items, slices -/
def p_ix : PyData → PyData → Option Rs := fun a b => match seqD a, b with
  | some ds, .int i => (atI ds i).map Rs.im
  | _, _ => none
theorem dpAll_atI {K : PySem.W.Frag} {G : Hp} {vs : List V} {ds : List PyData} {i : Int} {d : PyData} (h : DpAll K G vs ds) (q : atI ds i = some d) : ∃ v, atI vs i = some v ∧ Dp K G v d := by
  have e : atI vs i = (ixN vs.length i).bind fun j => vs[j]? := rfl
  rw [e, dpAll_len h]
  have q : ((ixN ds.length i).bind fun j => ds[j]?) = some d := q
  cases z : ixN ds.length i with
  | none => rw [z] at q; cases q
  | some j =>
    rw [z] at q
    exact dpAll_get h q
def rIx2 (K : PySem.W.Frag) : R2 := fun x y H Q => rIxL K x y H Q ∨ rIxT K x y H Q
theorem vb_ix {K : PySem.W.Frag} : VB K (rIx2 K) p_ix := by
  intro m E G0 G e σ H x y dx dy rr Q R lx ly q P
  unfold p_ix at q
  split at q
  · rename_i ds i h
    cases z : atI ds i with
    | none => rw [z] at q; cases q
    | some d =>
      rw [z] at q
      cases q
      unfold seqD at h
      split at h
      · cases h
        obtain ⟨p, ws, ex, s1, k⟩ := lx.list R.gh
        obtain ⟨v, e1, e2⟩ := dpAll_atI k z
        exact .inl ⟨p, ws, i, v, ex, ly.int, s1, e1, P.now R e2 True.intro⟩
      · cases h
        obtain ⟨p, ws, ex, s1, k⟩ := lx.tup R.gh
        obtain ⟨v, e1, e2⟩ := dpAll_atI k z
        exact .inr ⟨p, ws, i, v, ex, ly.int, s1, e1, P.now R e2 True.intro⟩
      · cases h
  · cases q
abbrev x_ix (fa fb : Fe) : Fe := x_bin p_ix fa fb
section
variable {X : Cx} {a b : Expr} {fa fb : Fe} {pos : Pos}
theorem ed_ix (ha : ED X a fa) (hb : ED X b fb) (hs : PlainIx b := by intro _ _; rfl) : ED X (.Subscript a b pos) (x_ix fa fb) := by
  obtain ⟨ta, tb, pa, pb, k2⟩ := two_ok ha hb
  exact ⟨_, pe_ix (ix_list.or ix_tup) pa pb hs, bin_ok (r := rIx2 X.K) vb_ix k2⟩
end
abbrev Fo := Ev → Option (Option Int × Ev)
structure OD (X : Cx) (o : Option Expr) (f : Fo) : Prop where
  ex : ∃ t, PO X o t ∧ ∀ (m : Option Addr) (E G0 G : Hp) (e : Ev) (σ : St) (H : Hp) (i : Option Int) (e' : Ev) (Q : Option Int → Hp → Prop),
    Rl X.K m E G0 G e σ H → f e = some (i, e') → (∀ G' H', Rl X.K m E G0 G' e' σ H' → Stp σ G H e G' H' e' → Q i H') → t σ H Q
def o_no : Fo := fun e => some (none, e)
def o_at (f : Fe) : Fo := fun e => match f e with
  | some (.im (.int i), e1) => some (some i, e1)
  | _ => none
def cutD {α : Type} (ds : List α) (lo hi : Option Int) : List α := (ds.drop (HT.sIx ds.length 0 lo)).take (HT.sIx ds.length ds.length hi - HT.sIx ds.length 0 lo)
def sliced (lo hi : Option Int) : PyData → Option Rs
  | .list ds => some (.ac (cutD ds lo hi))
  | .tuple ds => some (.im (.tuple (cutD ds lo hi)))
  | _ => none
def x_sl (fa : Fe) (fl fh : Fo) : Fe := fun e => match fa e with
  | some (r, e1) => (match fl e1 with
    | some (lo, e2) => (match fh e2 with
      | some (hi, e3) => (match lookR e3 (frzR r) with
        | some d => (match sliced lo hi d with
          | some r2 => some (r2, e3)
          | none => none)
        | none => none)
      | none => none)
    | none => none)
  | none => none
theorem dpAll_cut {K : PySem.W.Frag} {G : Hp} {vs : List V} {ds : List PyData} {lo hi : Option Int} (h : DpAll K G vs ds) : DpAll K G (cutV vs lo hi) (cutD ds lo hi) := by
  unfold cutV cutD
  rw [dpAll_len h]
  exact dpAll_take _ (dpAll_drop _ h)
theorem cutD_all {α : Type} {ds : List α} {lo hi : Option Int} (h1 : HT.sIx ds.length 0 lo = 0) (h2 : HT.sIx ds.length ds.length hi = ds.length) : cutD ds lo hi = ds := by
  unfold cutD
  rw [h1, h2]
  exact List.take_length
section
variable {X : Cx} {a b : Expr} {fa fb : Fe} {fl fh : Fo} {lo hi : Option Expr} {pos p2 : Pos}
theorem od_no : OD X none o_no := ⟨_, po_none, fun m E G0 G e σ H i e' Q R q P => by
  cases q
  exact P G H R Stp.refl⟩
theorem od_at (h : ED X a fa) : OD X (some a) (o_at fa) := by
  obtain ⟨t, p, k⟩ := h
  refine ⟨_, po_some p, fun m E G0 G e σ H i e' Q R q P => ?_⟩
  unfold o_at at q
  split at q
  · rename_i j e1 h1
    simp only [Option.some.injEq, Prod.mk.injEq] at q
    obtain ⟨rfl, rfl⟩ := q
    refine k m E G0 G e σ H _ e1 _ R h1 fun v G1 H1 R1 S1 V1 _ => ?_
    cases V1
    exact ⟨j, rfl, P G1 H1 R1 S1⟩
  · cases q
theorem ed_sl (ha : ED X a fa) (hl : OD X lo fl) (hh : OD X hi fh) : ED X (.Subscript a (.Slice lo hi none p2) pos) (x_sl fa fl fh) := by
  obtain ⟨t, p, k⟩ := ha
  obtain ⟨t1, q1, k1⟩ := hl
  obtain ⟨t2, q2, k2⟩ := hh
  refine ⟨_, pe_slice (sl_list.or sl_tupA) p q1 q2, fun m E G0 G e σ H r e' Q R q P => ?_⟩
  unfold x_sl at q
  cases h1 : fa e with
  | none => simp only [h1] at q; cases q
  | some z =>
    obtain ⟨r0, e1⟩ := z
    simp only [h1] at q
    cases h2 : fl e1 with
    | none => simp only [h2] at q; cases q
    | some z =>
      obtain ⟨i, e2⟩ := z
      simp only [h2] at q
      cases h3 : fh e2 with
      | none => simp only [h3] at q; cases q
      | some z =>
        obtain ⟨j, e3⟩ := z
        simp only [h3] at q
        cases h4 : lookR e3 (frzR r0) with
        | none => simp only [h4] at q; cases q
        | some d =>
          simp only [h4] at q
          cases h5 : sliced i j d with
          | none => simp only [h5] at q; cases q
          | some r2 =>
            simp only [h5, Option.some.injEq, Prod.mk.injEq] at q
            obtain ⟨rfl, rfl⟩ := q
            refine k m E G0 G e σ H r0 e1 _ R h1 fun v G1 H1 R1 S1 V1 N1 => ?_
            obtain ⟨G1', R1', S1', s1, V1'⟩ := R1.freeze S1 V1 N1
            refine k1 m E G0 G1' e1 σ H1 i e2 _ R1' h2 fun G2 H2 R2 S2 => ?_
            refine k2 m E G0 G2 e2 σ H2 j e3 _ R2 h3 fun G3 H3 R3 S3 => ?_
            have L := R3.look ((V1'.stp S2).stp S3) h4
            have S := S1'.trans (S2.trans S3)
            unfold sliced at h5
            split at h5
            · cases h5
              obtain ⟨p', ws, ex, s2, dk⟩ := L.list R3.gh
              refine .inl ⟨p', ws, ex, s2, fun p hp => ?_⟩
              obtain ⟨R', S', V', N'⟩ := R3.newL hp (dpAll_cut dk)
              exact P _ _ _ R' (S.trans S') V' (nw_back S _ N')
            · cases h5
              rename_i ds
              obtain ⟨p', ws, ex, s2, dk⟩ := L.tup R3.gh
              refine .inr ⟨p', ws, ex, s2, fun hw => ?_, fun _ p hp => ?_⟩
              · rw [dpAll_len dk] at hw
                rw [cutD_all hw.1 hw.2] at P
                rcases L with L | ⟨_, _, _, _, z, _⟩
                · rw [← ex]
                  exact P _ _ _ R3 S L True.intro
                · cases z
              · obtain ⟨R', S', D'⟩ := R3.newT hp (dpAll_cut dk)
                exact P _ _ _ R' (S.trans S') D' True.intro
            · cases h5
/-- xs[::-1], xs a list -/
def x_rev (fa : Fe) : Fe := fun e => match fa e with
  | some (r, e1) => (match lookR e1 (frzR r) with
    | some (.list ds) => some (.ac ds.reverse, e1)
    | _ => none)
  | none => none
theorem ed_rev {n : Nat} {p1 p2 p3 : Pos} (ha : ED X a fa) : ED X (.Subscript a (.Slice none none (some (.UnaryOp .USub (.Constant (.int 1) n p1) p2)) p3) pos) (x_rev fa) := by
  obtain ⟨t, p, k⟩ := ha
  refine ⟨_, pe_revL p, fun m E G0 G e σ H r e' Q R q P => ?_⟩
  unfold x_rev at q
  cases h1 : fa e with
  | none => simp only [h1] at q; cases q
  | some z =>
    obtain ⟨r0, e1⟩ := z
    simp only [h1] at q
    split at q
    · rename_i ds h4
      cases q
      refine k m E G0 G e σ H r0 _ _ R h1 fun v G1 H1 R1 S1 V1 N1 => ?_
      obtain ⟨G1', R1', S1', s1, V1'⟩ := R1.freeze S1 V1 N1
      obtain ⟨p', ws, ex, s2, dk⟩ := (R1'.look V1' h4).list R1'.gh
      refine ⟨p', ws, ex, s2, fun p hp => ?_⟩
      obtain ⟨R', S', V', N'⟩ := R1'.newL hp (dpAll_rev dk)
      exact P _ _ _ R' (S1'.trans S') V' (nw_back S1' _ N')
    · cases q
/-- -n -/
def x_neg (fa : Fe) : Fe := fun e => match fa e with
  | some (.im (.int i), e1) => some (.im (.int (-i)), e1)
  | _ => none
theorem ed_neg (ha : ED X a fa) : ED X (.UnaryOp .USub a pos) (x_neg fa) := by
  obtain ⟨t, p, k⟩ := ha
  refine ⟨_, pe_un un_neg p, fun m E G0 G e σ H r e' Q R q P => ?_⟩
  unfold x_neg at q
  split at q
  · rename_i i e1 h1
    cases q
    refine k m E G0 G e σ H _ _ _ R h1 fun v G1 H1 R1 S1 V1 _ => ?_
    cases V1
    exact ⟨i, rfl, P _ _ _ R1 S1 (.int _) True.intro⟩
  · cases q
end

/-! ### built-ins by name -/
/-- an n-place rule by values, over data -/
def VC (K : PySem.W.Frag) (r : List V → Hp → VK → Prop) (φ : List PyData → Option Rs) : Prop :=
  ∀ (m : Option Addr) (E G0 G : Hp) (e : Ev) (σ : St) (H : Hp) (vs : List V) (ds : List PyData) (rr : Rs) (Q : VK), Rl K m E G0 G e σ H → LvAll K G H vs ds → φ ds = some rr → Po K m E G0 σ G H e rr e Q → r vs H Q
def orC {α γ : Type} (φ ψ : α → Option γ) : α → Option γ := fun a => match φ a with
  | some r => some r
  | none => ψ a
theorem VC.or {K : PySem.W.Frag} {r r' : List V → Hp → VK → Prop} {φ ψ : List PyData → Option Rs} (h : VC K r φ) (h' : VC K r' ψ) : VC K (fun vs H Q => r vs H Q ∨ r' vs H Q) (orC φ ψ) := by
  intro m E G0 G e σ H vs ds rr Q R l q P
  unfold orC at q
  cases h1 : φ ds with
  | some r1 =>
    simp only [h1, Option.some.injEq] at q
    subst q
    exact .inl (h m E G0 G e σ H vs ds _ Q R l h1 P)
  | none =>
    simp only [h1] at q
    exact .inr (h' m E G0 G e σ H vs ds rr Q R l q P)
def x_cb (φ : List PyData → Option Rs) (fa : Fa) : Fe := fun e => match argsD fa e with
  | some (ds, e1) => (match φ ds with
    | some r => some (r, e1)
    | none => none)
  | none => none
section
variable {X : Cx} {a : Expr} {es : List Expr} {fa : Fa} {pos p : Pos} {x : Str} {id T : String} {r : List V → Hp → VK → Prop} {φ : List PyData → Option Rs}
theorem cb_ok {t : TA} (hv : VC X.K r φ) (k : ∀ (m : Option Addr) (E G0 G : Hp) (e : Ev) (σ : St) (H : Hp) (rs : List Rs) (e' : Ev) (Q : List V → Hp → Prop),
    Rl X.K m E G0 G e σ H → fa e = some (rs, e') → (∀ vs G' H', Rl X.K m E G0 G' e' σ H' → Stp σ G H e G' H' e' → VrAll X.K E G' H' σ e' vs rs → Q vs H') → t σ H Q)
    (m : Option Addr) (E G0 G : Hp) (e : Ev) (σ : St) (H : Hp) (rr : Rs) (e' : Ev) (Q : VK) (R : Rl X.K m E G0 G e σ H) (q : x_cb φ fa e = some (rr, e')) (P : Po X.K m E G0 σ G H e rr e' Q) : tCB r t σ H Q := by
  unfold x_cb at q
  cases h1 : argsD fa e with
  | none => simp only [h1] at q; cases q
  | some z =>
    obtain ⟨ds, e1⟩ := z
    simp only [h1] at q
    cases h2 : φ ds with
    | none => simp only [h2] at q; cases q
    | some r2 =>
      simp only [h2, Option.some.injEq, Prod.mk.injEq] at q
      obtain ⟨rfl, rfl⟩ := q
      obtain ⟨rs, q1, q2⟩ := argsD_ok h1
      exact k m E G0 G e σ H rs e1 _ R q1 fun vs G1 H1 R1 S1 V1 => hv m E G0 G1 e1 σ H1 vs ds _ Q R1 (R1.lookAll V1 q2) h2 (P.aft S1)
theorem ed_cb (hv : VC X.K r φ) (hc : CallR X (.builtin id) r) (hm : X.mg x = none) (h : AD X (a :: es) fa) (hb : bootBuiltins x = some (.builtin id) := by decide +kernel) (hg : Gl X x := by rfl) (hn : x ≠ "__name__" := by decide) (hdb : (x == ("__debug__" : Str)) = false := by decide)
    (he : starEach (a :: es) X.env = (false, eval a X.env) :: starEach es X.env := by rfl) (hpl : (backTo pos (starEach es X.env)).any (·.1) = false := by rfl) : ED X (.Call (.Name x p) (a :: es) [] pos) (x_cb φ fa) := by
  obtain ⟨t, pa, k⟩ := h
  exact ⟨_, pe_callB hc hg hm hb pa hn hdb he hpl, cb_ok hv k⟩
theorem ed_ct (hv : VC X.K r φ) (hc : CallR X (.type T) r) (hm : X.mg x = none) (h : AD X (a :: es) fa) (hb : bootBuiltins x = some (.type T) := by decide +kernel) (hg : Gl X x := by rfl) (hn : x ≠ "__name__" := by decide) (hdb : (x == ("__debug__" : Str)) = false := by decide)
    (he : starEach (a :: es) X.env = (false, eval a X.env) :: starEach es X.env := by rfl) (hpl : (backTo pos (starEach es X.env)).any (·.1) = false := by rfl) : ED X (.Call (.Name x p) (a :: es) [] pos) (x_cb φ fa) := by
  obtain ⟨t, pa, k⟩ := h
  exact ⟨_, pe_callTy hc hg hm hb pa hn hdb he hpl, cb_ok hv k⟩
end
theorem lv1 {K : PySem.W.Frag} {G H : Hp} {vs : List V} {d : PyData} (h : LvAll K G H vs [d]) : ∃ v, vs = [v] ∧ Lv K G H v d := by
  match vs, h with
  | [v], h => exact ⟨v, rfl, h.1⟩
  | _ :: _ :: _, h => exact h.2.elim
theorem lv2 {K : PySem.W.Frag} {G H : Hp} {vs : List V} {c d : PyData} (h : LvAll K G H vs [c, d]) : ∃ u v, vs = [u, v] ∧ Lv K G H u c ∧ Lv K G H v d := by
  match vs, h with
  | [u, v], h => exact ⟨u, v, rfl, h.1, h.2.1⟩
  | _ :: _ :: _ :: _, h => exact h.2.2.elim
  | [_], h => exact h.2.elim
def c_len : List PyData → Option Rs
  | [.list ds] => some (.im (.int ds.length))
  | [.tuple ds] => some (.im (.int ds.length))
  | _ => none
def c_abs : List PyData → Option Rs
  | [.int i] => some (.im (.int (if i < 0 then -i else i)))
  | _ => none
def c_max2 : List PyData → Option Rs
  | [.int i, .int j] => some (.im (.int (if j > i then j else i)))
  | _ => none
def c_min2 : List PyData → Option Rs
  | [.int i, .int j] => some (.im (.int (if j < i then j else i)))
  | _ => none
def c_int : List PyData → Option Rs
  | [.int i] => some (.im (.int i))
  | [.bool k] => some (.im (.int (if k = true then 1 else 0)))
  | _ => none
def c_list : List PyData → Option Rs
  | [.list ds] => some (.ac ds)
  | [.tuple ds] => some (.ac ds)
  | _ => none
def c_tuple : List PyData → Option Rs
  | [.list ds] => some (.im (.tuple ds))
  | [.tuple ds] => some (.im (.tuple ds))
  | _ => none
section
variable {K : PySem.W.Frag} {X : Cx}
theorem vc_len : VC K (fun xs H Q => ∃ p ys, xs = [.ref p] ∧ (SqL K H p ys ∨ SqT K H p ys) ∧ Q (.int ys.length) H) c_len := by
  intro m E G0 G e σ H vs ds rr Q R l q P
  unfold c_len at q
  split at q
  · cases q
    obtain ⟨v, rfl, lv⟩ := lv1 l
    obtain ⟨p, ws, rfl, s1, k⟩ := lv.list R.gh
    refine ⟨p, ws, rfl, .inl s1, ?_⟩
    rw [dpAll_len k]
    exact P.now R (.int _) True.intro
  · cases q
    obtain ⟨v, rfl, lv⟩ := lv1 l
    obtain ⟨p, ws, rfl, s1, k⟩ := lv.tup R.gh
    refine ⟨p, ws, rfl, .inr s1, ?_⟩
    rw [dpAll_len k]
    exact P.now R (.int _) True.intro
  · cases q
theorem vc_abs : VC K (fun xs H Q => ∃ i, xs = [.int i] ∧ Q (.int (if i < 0 then -i else i)) H) c_abs := by
  intro m E G0 G e σ H vs ds rr Q R l q P
  unfold c_abs at q
  split at q
  · cases q
    obtain ⟨v, rfl, lv⟩ := lv1 l
    exact ⟨_, by rw [lv.int], P.now R (.int _) True.intro⟩
  · cases q
theorem vc_max2 : VC K (fun xs H Q => ∃ i j, xs = [.int i, .int j] ∧ Q (.int (if j > i then j else i)) H) c_max2 := by
  intro m E G0 G e σ H vs ds rr Q R l q P
  unfold c_max2 at q
  split at q
  · cases q
    obtain ⟨u, v, rfl, l1, l2⟩ := lv2 l
    exact ⟨_, _, by rw [l1.int, l2.int], P.now R (.int _) True.intro⟩
  · cases q
theorem vc_min2 : VC K (fun xs H Q => ∃ i j, xs = [.int i, .int j] ∧ Q (.int (if j < i then j else i)) H) c_min2 := by
  intro m E G0 G e σ H vs ds rr Q R l q P
  unfold c_min2 at q
  split at q
  · cases q
    obtain ⟨u, v, rfl, l1, l2⟩ := lv2 l
    exact ⟨_, _, by rw [l1.int, l2.int], P.now R (.int _) True.intro⟩
  · cases q
theorem vc_int : VC K (fun xs H Q => (∃ i, xs = [.int i] ∧ Q (.int i) H) ∨ ∃ k, xs = [.bl k] ∧ Q (.int (if k then 1 else 0)) H) c_int := by
  intro m E G0 G e σ H vs ds rr Q R l q P
  unfold c_int at q
  split at q
  · cases q
    obtain ⟨v, rfl, lv⟩ := lv1 l
    exact .inl ⟨_, by rw [lv.int], P.now R (.int _) True.intro⟩
  · cases q
    obtain ⟨v, rfl, lv⟩ := lv1 l
    exact .inr ⟨_, by rw [lv.bool], P.now R (.int _) True.intro⟩
  · cases q
theorem vc_list : VC K (fun xs H Q => ∃ p ys, xs = [.ref p] ∧ (SqL K H p ys ∨ SqT K H p ys) ∧ ∀ l, H l = none → Q (.ref l) (upd H l (.lst ys))) c_list := by
  intro m E G0 G e σ H vs ds rr Q R l q P
  unfold c_list at q
  split at q
  · cases q
    obtain ⟨v, rfl, lv⟩ := lv1 l
    obtain ⟨p, ws, rfl, s1, k⟩ := lv.list R.gh
    refine ⟨p, ws, rfl, .inl s1, fun p2 hp => ?_⟩
    obtain ⟨R', S', V', N'⟩ := R.newL hp k
    exact P _ _ _ R' S' V' N'
  · cases q
    obtain ⟨v, rfl, lv⟩ := lv1 l
    obtain ⟨p, ws, rfl, s1, k⟩ := lv.tup R.gh
    refine ⟨p, ws, rfl, .inr s1, fun p2 hp => ?_⟩
    obtain ⟨R', S', V', N'⟩ := R.newL hp k
    exact P _ _ _ R' S' V' N'
  · cases q
theorem vc_tuple : VC K (fun xs H Q => ∃ p ys, xs = [.ref p] ∧ ((SqL K H p ys ∧ ∀ l, H l = none → Q (.ref l) (upd H l (.tup ys))) ∨ (SqT K H p ys ∧ Q (.ref p) H))) c_tuple := by
  intro m E G0 G e σ H vs ds rr Q R l q P
  unfold c_tuple at q
  split at q
  · cases q
    obtain ⟨v, rfl, lv⟩ := lv1 l
    obtain ⟨p, ws, rfl, s1, k⟩ := lv.list R.gh
    refine ⟨p, ws, rfl, .inl ⟨s1, fun p2 hp => ?_⟩⟩
    obtain ⟨R', S', D'⟩ := R.newT hp k
    exact P _ _ _ R' S' D' True.intro
  · cases q
    obtain ⟨v, rfl, lv⟩ := lv1 l
    obtain ⟨p, ws, rfl, s1, k⟩ := lv.tup R.gh
    refine ⟨p, ws, rfl, .inr ⟨s1, ?_⟩⟩
    rcases lv with lv | ⟨_, _, _, _, z, _⟩
    · exact P.now R lv True.intro
    · cases z
  · cases q
end
end DL
namespace DL
open L2 PySem PySem.Spec PyProof.Rows

/-! ### isinstance of a built-in class -/
inductive Ty where
  | int | bool | str | tuple | list
def Ty.nm : Ty → String
  | .int => "int"
  | .bool => "bool"
  | .str => "str"
  | .tuple => "tuple"
  | .list => "list"
def isD : Ty → PyData → Option Bool
  | _, .dict _ => none
  | .int, .int _ => some true
  | .int, .bool _ => some true
  | .bool, .bool _ => some true
  | .str, .str _ => some true
  | .tuple, .tuple _ => some true
  | .list, .list _ => some true
  | _, _ => some false
def tyN : PyData → String
  | .none => "NoneType"
  | .bool _ => "bool"
  | .int _ => "int"
  | .str _ => "str"
  | .list _ => "list"
  | .tuple _ => "tuple"
  | .dict _ => "dict"
theorem isD_ok {T : Ty} {d : PyData} {b : Bool} (h : isD T d = some b) : kitB (tyN d) T.nm = some b := by
  cases d <;> cases T <;> first
    | (cases h; done)
    | (cases h; simp only [tyN, Ty.nm]; decide +kernel)
theorem lv_ty {K : PySem.W.Frag} {G H : Hp} {v : V} {d : PyData} (s : Same G H) (h : Lv K G H v d) : TyX K H v (.type (tyN d)) := by
  have h := h.dp s
  cases h with
  | non => exact .base .non
  | bl b => exact .base (.bl b)
  | int i => exact .base (.int i)
  | str x => exact .base (.str x)
  | lst h1 _ =>
    rcases h1 with (h2 | ⟨o, h2⟩) | ⟨o, its, n, hk, hc, _⟩
    · exact .base (.lst h2)
    · exact .base (.frz h2)
    · exact .kList hk hc
  | tup h1 _ =>
    rcases h1 with (h2 | ⟨o, h2⟩) | ⟨o, its, n, hk, hc, _⟩
    · exact .base (.tup h2)
    · exact .fTuple h2
    · exact .kTuple hk hc
def x_isi (T : Ty) (f : Fe) : Fe := fun e => match f e with
  | some (r, e1) => (match lookR e1 (frzR r) with
    | some d => (match isD T d with
      | some b => some (.im (.bool b), e1)
      | none => none)
    | none => none)
  | none => none
section
variable {X : Cx} {a : Expr} {fa : Fe} {pos p p2 : Pos}
theorem ed_isi (T : Ty) (ha : ED X a fa) {y : Str} (hm : X.mg "isinstance" = none) (hmT : X.mg y = none) (hy : y = Str.ofString T.nm := by rfl) (hb : bootBuiltins y = some (.type T.nm) := by decide +kernel) (hg : Gl X "isinstance" := by rfl) (hgT : Gl X y := by rfl)
    (hny : y ≠ "__name__" := by decide) (hdy : (y == ("__debug__" : Str)) = false := by decide)
    (h1 : starEach [.Name y p2] X.env = (false, eval (.Name y p2) X.env) :: starEach [] X.env := by rfl)
    (he : starEach [a, .Name y p2] X.env = (false, eval a X.env) :: starEach [.Name y p2] X.env := by rfl) (hpl : (backTo pos (starEach [.Name y p2] X.env)).any (·.1) = false := by rfl) :
    ED X (.Call (.Name "isinstance" p) [a, .Name y p2] [] pos) (x_isi T fa) := by
  obtain ⟨t, pa, k⟩ := ha
  refine ⟨_, pe_callB call_isi hg hm (by decide +kernel) (pa_cons pa (pa_cons (pe_bltn (v := .ty T.nm) hgT hmT hb rfl hny hdy) pa_nil h1) he) (by decide) (by decide) he hpl, fun m E G0 G e σ H r e' Q R q P => ?_⟩
  unfold x_isi at q
  cases h1 : fa e with
  | none => simp only [h1] at q; cases q
  | some z =>
    obtain ⟨r0, e1⟩ := z
    simp only [h1] at q
    cases h4 : lookR e1 (frzR r0) with
    | none => simp only [h4] at q; cases q
    | some d =>
      simp only [h4] at q
      cases h5 : isD T d with
      | none => simp only [h5] at q; cases q
      | some b =>
        simp only [h5, Option.some.injEq, Prod.mk.injEq] at q
        obtain ⟨rfl, rfl⟩ := q
        refine k m E G0 G e σ H r0 e1 _ R h1 fun v G1 H1 R1 S1 V1 N1 => ?_
        obtain ⟨G1', R1', S1', s1, V1'⟩ := R1.freeze S1 V1 N1
        have L := R1'.look V1' h4
        exact ⟨v, .ty T.nm, .type (tyN d), .type T.nm, b, rfl, .ty _, lv_ty R1'.gh L, kit_ty (isD_ok h5), P _ _ _ R1' S1' (.bl _) True.intro⟩
end

/-! ### lists of ints, of bools -/
def unI : List PyData → Option (List Int)
  | [] => some []
  | .int i :: ds => (unI ds).map (i :: ·)
  | _ :: _ => none
def unB : List PyData → Option (List Bool)
  | [] => some []
  | .bool b :: ds => (unB ds).map (b :: ·)
  | _ :: _ => none
theorem unI_ok : ∀ {ds : List PyData} {ns : List Int}, unI ds = some ns → ds = ns.map PyData.int
  | [], ns, h => by
    cases h
    rfl
  | d :: ds, ns, h => by
    cases d with
    | int i =>
      simp only [unI] at h
      cases z : unI ds with
      | none => rw [z] at h; cases h
      | some ms =>
        rw [z] at h
        cases h
        rw [unI_ok z]
        rfl
    | _ => simp only [unI] at h; cases h
theorem unB_ok : ∀ {ds : List PyData} {ns : List Bool}, unB ds = some ns → ds = ns.map PyData.bool
  | [], ns, h => by
    cases h
    rfl
  | d :: ds, ns, h => by
    cases d with
    | bool i =>
      simp only [unB] at h
      cases z : unB ds with
      | none => rw [z] at h; cases h
      | some ms =>
        rw [z] at h
        cases h
        rw [unB_ok z]
        rfl
    | _ => simp only [unB] at h; cases h
theorem unI_map : ∀ ns : List Int, unI (ns.map PyData.int) = some ns
  | [] => rfl
  | n :: ns => by
    show (unI (ns.map PyData.int)).map (n :: ·) = _
    rw [unI_map ns]
    rfl
theorem unB_map : ∀ ns : List Bool, unB (ns.map PyData.bool) = some ns
  | [] => rfl
  | n :: ns => by
    show (unB (ns.map PyData.bool)).map (n :: ·) = _
    rw [unB_map ns]
    rfl
theorem dp_ints {K : PySem.W.Frag} {G : Hp} : ∀ {vs : List V} {ns : List Int}, DpAll K G vs (ns.map PyData.int) → vs = ns.map V.int
  | [], [], _ => rfl
  | [], _ :: _, h => by cases h
  | _ :: _, [], h => by cases h
  | v :: vs, n :: ns, h => by
    cases h with
    | cons h t =>
      cases h
      rw [dp_ints t]
      rfl
theorem dp_bools {K : PySem.W.Frag} {G : Hp} : ∀ {vs : List V} {ns : List Bool}, DpAll K G vs (ns.map PyData.bool) → vs = ns.map V.bl
  | [], [], _ => rfl
  | [], _ :: _, h => by cases h
  | _ :: _, [], h => by cases h
  | v :: vs, n :: ns, h => by
    cases h with
    | cons h t =>
      cases h
      rw [dp_bools t]
      rfl
/-- the greatest, the least of what is there -/
def maxI : List Int → Int
  | [] => 0
  | [a] => a
  | a :: b :: r => max a (maxI (b :: r))
def minI : List Int → Int
  | [] => 0
  | [a] => a
  | a :: b :: r => min a (minI (b :: r))
theorem maxI_uniq : ∀ {ns : List Int} {m : Int}, m ∈ ns → (∀ y, y ∈ ns → y ≤ m) → m = maxI ns
  | [], _, h, _ => by cases h
  | [a], m, h, _ => by simpa [maxI] using h
  | a :: b :: r, m, h, k => by
    show m = max a (maxI (b :: r))
    have ka := k a List.mem_cons_self
    have mem : maxI (b :: r) ∈ (b :: r) := by
      have : ∀ (l : List Int), l ≠ [] → maxI l ∈ l := by
        intro l
        induction l with
        | nil => intro z; exact absurd rfl z
        | cons x l ih =>
          intro _
          cases l with
          | nil => simp [maxI]
          | cons y l =>
            have q := ih (by simp)
            show max x (maxI (y :: l)) ∈ _
            by_cases z : x ≤ maxI (y :: l)
            · rw [show max x (maxI (y :: l)) = maxI (y :: l) by omega]
              exact List.mem_cons_of_mem _ q
            · rw [show max x (maxI (y :: l)) = x by omega]
              exact List.mem_cons_self
      exact this _ (by simp)
    have kb := k _ (List.mem_cons_of_mem _ mem)
    (rcases List.mem_cons.mp h with e | h')
    · omega
    · have q := maxI_uniq h' fun y hy => k y (List.mem_cons_of_mem _ hy)
      omega
theorem minI_uniq : ∀ {ns : List Int} {m : Int}, m ∈ ns → (∀ y, y ∈ ns → m ≤ y) → m = minI ns
  | [], _, h, _ => by cases h
  | [a], m, h, _ => by simpa [minI] using h
  | a :: b :: r, m, h, k => by
    show m = min a (minI (b :: r))
    have ka := k a List.mem_cons_self
    have mem : minI (b :: r) ∈ (b :: r) := by
      have : ∀ (l : List Int), l ≠ [] → minI l ∈ l := by
        intro l
        induction l with
        | nil => intro z; exact absurd rfl z
        | cons x l ih =>
          intro _
          cases l with
          | nil => simp [minI]
          | cons y l =>
            have q := ih (by simp)
            show min x (minI (y :: l)) ∈ _
            by_cases z : minI (y :: l) ≤ x
            · rw [show min x (minI (y :: l)) = minI (y :: l) by omega]
              exact List.mem_cons_of_mem _ q
            · rw [show min x (minI (y :: l)) = x by omega]
              exact List.mem_cons_self
      exact this _ (by simp)
    have kb := k _ (List.mem_cons_of_mem _ mem)
    (rcases List.mem_cons.mp h with e | h')
    · omega
    · have q := minI_uniq h' fun y hy => k y (List.mem_cons_of_mem _ hy)
      omega
def c_intsL (g : List Int → Option Rs) : List PyData → Option Rs
  | [.list ds] => (match unI ds with
    | some ns => g ns
    | none => none)
  | _ => none
def c_max : List PyData → Option Rs := c_intsL fun ns => if ns.isEmpty = true then none else some (.im (.int (maxI ns)))
def c_min : List PyData → Option Rs := c_intsL fun ns => if ns.isEmpty = true then none else some (.im (.int (minI ns)))
def c_sum : List PyData → Option Rs := c_intsL fun ns => some (.im (.int ns.sum))
def c_all : List PyData → Option Rs
  | [.list ds] => (match unB ds with
    | some bs => some (.im (.bool (bs.all id)))
    | none => none)
  | _ => none
def c_any : List PyData → Option Rs
  | [.list ds] => (match unB ds with
    | some bs => some (.im (.bool (bs.any id)))
    | none => none)
  | _ => none
/-- sorted, ascending, falling -/
def upI (ns : List Int) : List Int := ns.mergeSort fun a b => decide (a ≤ b)
def downI (ns : List Int) : List Int := ns.mergeSort fun a b => decide (b ≤ a)
theorem upI_uniq {ns ms : List Int} (h : ms.Perm ns) (k : ms.Pairwise (· ≤ ·)) : ms = upI ns := by
  have p1 : (upI ns).Perm ns := List.mergeSort_perm ns _
  have s1 : (upI ns).Pairwise (fun a b => decide (a ≤ b) = true) := List.pairwise_mergeSort (fun a b c h1 h2 => by simp at *; omega) (fun a b => by simp; omega) ns
  refine List.Perm.eq_of_pairwise (le := (· ≤ ·)) (fun a b _ _ h1 h2 => by omega) k (s1.imp fun h => of_decide_eq_true h) (h.trans p1.symm)
theorem downI_uniq {ns ms : List Int} (h : ms.Perm ns) (k : ms.Pairwise (· ≥ ·)) : ms = downI ns := by
  have p1 : (downI ns).Perm ns := List.mergeSort_perm ns _
  have s1 : (downI ns).Pairwise (fun a b => decide (b ≤ a) = true) := List.pairwise_mergeSort (fun a b c h1 h2 => by simp at *; omega) (fun a b => by simp; omega) ns
  refine List.Perm.eq_of_pairwise (le := (· ≥ ·)) (fun a b _ _ h1 h2 => by omega) k (s1.imp fun h => of_decide_eq_true h) (h.trans p1.symm)
def c_sortedI : List PyData → Option Rs := c_intsL fun ns => some (.ac ((upI ns).map PyData.int))
section
variable {K : PySem.W.Frag} {X : Cx}
theorem intsL_ok {g : List Int → Option Rs} {ds : List PyData} {r : Rs} (q : c_intsL g ds = some r) : ∃ ns, ds = [.list (ns.map PyData.int)] ∧ g ns = some r := by
  unfold c_intsL at q
  split at q
  · rename_i es
    cases z : unI es with
    | none => simp only [z] at q; cases q
    | some ns =>
      simp only [z] at q
      exact ⟨ns, by rw [unI_ok z], q⟩
  · cases q
theorem lv_ints {G H : Hp} {vs : List V} {ns : List Int} (s : Same G H) (l : LvAll K G H vs [.list (ns.map PyData.int)]) : ∃ p, vs = [.ref p] ∧ SqL K H p (ns.map V.int) := by
  obtain ⟨v, rfl, lv⟩ := lv1 l
  obtain ⟨p, ws, rfl, s1, k⟩ := lv.list s
  rw [dp_ints k] at s1
  exact ⟨p, rfl, s1⟩
theorem vc_max : VC K (rMax K) c_max := by
  intro m E G0 G e σ H vs ds rr Q R l q P
  obtain ⟨ns, rfl, q2⟩ := intsL_ok q
  clear q
  obtain ⟨p, rfl, s1⟩ := lv_ints R.gh l
  cases ns with
  | nil => cases q2
  | cons a r =>
    cases q2
    refine ⟨p, _, rfl, s1, Nat.succ_pos _, fun M h1 h2 => ?_⟩
    rw [maxI_uniq h1 h2]
    exact P.now R (.int _) True.intro
theorem vc_min : VC K (rMin K) c_min := by
  intro m E G0 G e σ H vs ds rr Q R l q P
  obtain ⟨ns, rfl, q2⟩ := intsL_ok q
  clear q
  obtain ⟨p, rfl, s1⟩ := lv_ints R.gh l
  cases ns with
  | nil => cases q2
  | cons a r =>
    cases q2
    refine ⟨p, _, rfl, s1, Nat.succ_pos _, fun M h1 h2 => ?_⟩
    rw [minI_uniq h1 h2]
    exact P.now R (.int _) True.intro
theorem vc_sum : VC K (rSum K) c_sum := by
  intro m E G0 G e σ H vs ds rr Q R l q P
  obtain ⟨ns, rfl, q2⟩ := intsL_ok q
  clear q
  obtain ⟨p, rfl, s1⟩ := lv_ints R.gh l
  cases q2
  exact ⟨p, _, rfl, s1, P.now R (.int _) True.intro⟩
theorem vc_sortedI : VC K (rSortedI K) c_sortedI := by
  intro m E G0 G e σ H vs ds rr Q R l q P
  obtain ⟨ns, rfl, q2⟩ := intsL_ok q
  clear q
  obtain ⟨p, rfl, s1⟩ := lv_ints R.gh l
  cases q2
  refine ⟨p, _, rfl, s1, fun ns' p2 h1 h2 hp => ?_⟩
  rw [upI_uniq h1 h2]
  obtain ⟨R', S', V', N'⟩ := R.newL hp (dpAll_ints (K := K) (G := G) (upI ns))
  exact P _ _ _ R' S' V' N'
theorem vc_all : VC K (rAll K) c_all := by
  intro m E G0 G e σ H vs ds rr Q R l q P
  unfold c_all at q
  split at q
  · rename_i es
    cases z : unB es with
    | none => simp only [z] at q; cases q
    | some bs =>
      simp only [z, Option.some.injEq] at q
      subst q
      obtain ⟨v, rfl, lv⟩ := lv1 l
      obtain ⟨p, ws, rfl, s1, k⟩ := lv.list R.gh
      rw [unB_ok z] at k
      rw [dp_bools k] at s1
      exact ⟨p, bs, rfl, s1, P.now R (.bl _) True.intro⟩
  · cases q
theorem vc_any : VC K (rAny K) c_any := by
  intro m E G0 G e σ H vs ds rr Q R l q P
  unfold c_any at q
  split at q
  · rename_i es
    cases z : unB es with
    | none => simp only [z] at q; cases q
    | some bs =>
      simp only [z, Option.some.injEq] at q
      subst q
      obtain ⟨v, rfl, lv⟩ := lv1 l
      obtain ⟨p, ws, rfl, s1, k⟩ := lv.list R.gh
      rw [unB_ok z] at k
      rw [dp_bools k] at s1
      exact ⟨p, bs, rfl, s1, P.now R (.bl _) True.intro⟩
  · cases q
/-- the call of sorted that turns the order about -/
def x_sortedR (fa : Fa) : Fe := x_cb (c_intsL fun ns => some (.ac ((downI ns).map PyData.int))) fa
theorem ed_sortedR {a : Expr} {fa : Fa} {pos p kp : Pos} {j : Nat} {cp : Pos} (h : AD X [a] fa) (hm : X.mg "sorted" = none) (hg : Gl X "sorted" := by rfl)
    (hk : PK X [⟨some (Str.ofString "reverse"), .Constant (.bool true) j cp, kp⟩] (tCons (tC (.bl true)) tNil) := by exact pk_cons pe_bl pk_nil)
    (he : backTo pos (starEach [a] X.env) = (false, eval a X.env) :: backTo pos (starEach [] X.env) := by rfl) (hpl : (backTo pos (starEach [a] X.env)).any (·.1) = false := by rfl)
    (hall : (backToKw pos (keywordEach [⟨some (Str.ofString "reverse"), .Constant (.bool true) j cp, kp⟩] X.env)).all (·.1.isSome) = true := by rfl) (hnone : (backToKw pos (keywordEach [⟨some (Str.ofString "reverse"), .Constant (.bool true) j cp, kp⟩] X.env)).any (·.1.isNone) = false := by rfl)
    (hks : (backToKw pos (keywordEach [⟨some (Str.ofString "reverse"), .Constant (.bool true) j cp, kp⟩] X.env)).filterMap (·.1) = [Str.ofString "reverse"] := by rfl) :
    ED X (.Call (.Name "sorted" p) [a] [⟨some (Str.ofString "reverse"), .Constant (.bool true) j cp, kp⟩] pos) (x_sortedR fa) := by
  obtain ⟨t, pa, k⟩ := h
  refine ⟨_, pe_callBK (cr_sortedRev (b := true)) hg hm (by decide +kernel) pa hk (by decide) (by decide) he hpl hall hnone hks, fun m E G0 G e σ H r e' Q R q P => ?_⟩
  unfold x_sortedR x_cb at q
  cases h1 : argsD fa e with
  | none => simp only [h1] at q; cases q
  | some z =>
    obtain ⟨ds, e1⟩ := z
    simp only [h1] at q
    cases h2 : c_intsL (fun ns => some (.ac ((downI ns).map PyData.int))) ds with
    | none => simp only [h2] at q; cases q
    | some r2 =>
      simp only [h2, Option.some.injEq, Prod.mk.injEq] at q
      obtain ⟨rfl, rfl⟩ := q
      obtain ⟨rs, q1, q2⟩ := argsD_ok h1
      obtain ⟨ns, rfl, h3⟩ := intsL_ok h2
      cases h3
      refine k m E G0 G e σ H rs e1 _ R q1 fun vs G1 H1 R1 S1 V1 => ?_
      obtain ⟨p, rfl, s1⟩ := lv_ints R1.gh (R1.lookAll V1 q2)
      refine ⟨p, ns, rfl, rfl, s1, fun ns' p2 z1 z2 hp => ?_⟩
      have z2 : ns'.Pairwise (· ≥ ·) := z2
      rw [downI_uniq z1 z2]
      obtain ⟨R', S', V', N'⟩ := R1.newL hp (dpAll_ints (K := X.K) (G := G1) (downI ns))
      exact P _ _ _ R' (S1.trans S') V' (nw_back S1 _ N')
end
end DL
namespace DL
open PySem PySem.Spec PyProof.Rows L2 RT RZ

/-! ### the same reading whatever the block -/
def teOf (K : PySem.W.Frag) (f : Fe) : TE := fun σ H Q => ∃ m E G0 G e r e', Rl K m E G0 G e σ H ∧ f e = some (r, e') ∧ Po K m E G0 σ G H e r e' Q
def ttOf (K : PySem.W.Frag) (f : Ft) : TT := fun σ H Q => ∃ m E G0 G e b e', Rl K m E G0 G e σ H ∧ f e = some (b, e') ∧ ∀ G' H', Rl K m E G0 G' e' σ H' → Stp σ G H e G' H' e' → Q b H'
theorem ED.can {X : Cx} {x : Expr} {f : Fe} (h : ED X x f) : PE X x (teOf X.K f) := by
  obtain ⟨t, p, k⟩ := h
  refine ⟨fun pins s σ H Q I q => p.run pins s σ H Q I ?_⟩
  obtain ⟨m, E, G0, G, e, r, e', R, q, P⟩ := q
  exact k m E G0 G e σ H r e' Q R q P
theorem TD.can {X : Cx} {x : Expr} {f : Ft} (h : TD X x f) : PT X x (ttOf X.K f) := by
  obtain ⟨t, p, k⟩ := h
  refine ⟨fun pins s σ H Q I q => p.run pins s σ H Q I ?_⟩
  obtain ⟨m, E, G0, G, e, b, e', R, q, P⟩ := q
  exact k m E G0 G e σ H b e' Q R q P

/-! ### what is stored -/
section
variable {K : PySem.W.Frag} {m : Option Addr} {E G0 G H : Hp} {e : Ev} {σ : St} {v : V} {d : PyData}
theorem set_get {α : Type} {l : List α} {i j : Nat} {a : α} : (l.set i a)[j]? = if i = j ∧ j < l.length then some a else l[j]? := by
  rw [List.getElem?_set]
  by_cases h : i = j
  · subst h
    by_cases k : i < l.length
    · simp [k]
    · simp [k]
  · simp [h]
theorem Rl.setI (R : Rl K m E G0 G e σ H) (i : Nat) (h : Dp K G v d) : Rl K m E G0 G (e.set i (some (.im d))) (σ.set i (some v)) H := by
  have hl := R.len
  refine ⟨R.gg, R.gh, R.eh, R.mh, R.nw, by rw [List.length_set, List.length_set]; exact hl, fun j d' q => ?_, fun j ds q => ?_, fun j k dj dk p q1 q2 q3 q4 => ?_⟩
  · rw [set_get] at q ⊢
    by_cases z : i = j ∧ j < e.length
    · rw [if_pos z] at q
      cases q
      rw [if_pos ⟨z.1, by omega⟩]
      exact ⟨v, rfl, h⟩
    · rw [if_neg z] at q
      rw [if_neg (by omega)]
      exact R.im j d' q
  · rw [set_get] at q ⊢
    by_cases z : i = j ∧ j < e.length
    · rw [if_pos z] at q
      cases q
    · rw [if_neg z] at q
      rw [if_neg (by omega)]
      exact R.ac j ds q
  · rw [set_get] at q1 q2 q3 q4
    by_cases z1 : i = j ∧ j < e.length
    · rw [if_pos z1] at q1
      cases q1
    · by_cases z2 : i = k ∧ k < e.length
      · rw [if_pos z2] at q2
        cases q2
      · rw [if_neg z1] at q1
        rw [if_neg z2] at q2
        rw [if_neg (by omega)] at q3
        rw [if_neg (by omega)] at q4
        exact R.inj j k dj dk p q1 q2 q3 q4
theorem Rl.setA {ds : List PyData} (R : Rl K m E G0 G e σ H) (i : Nat) (h : Vr K E G H σ e v (.ac ds)) : Rl K m E G0 G (e.set i (some (.ac ds))) (σ.set i (some v)) H := by
  have hl := R.len
  obtain ⟨p0, ws0, rfl, h1, h2, h3, h4, h5⟩ := h
  refine ⟨R.gg, R.gh, R.eh, R.mh, R.nw, by rw [List.length_set, List.length_set]; exact hl, fun j d' q => ?_, fun j ds q => ?_, fun j k dj dk p q1 q2 q3 q4 => ?_⟩
  · rw [set_get] at q ⊢
    by_cases z : i = j ∧ j < e.length
    · rw [if_pos z] at q
      cases q
    · rw [if_neg z] at q
      rw [if_neg (by omega)]
      exact R.im j d' q
  · rw [set_get] at q ⊢
    by_cases z : i = j ∧ j < e.length
    · rw [if_pos z] at q
      cases q
      rw [if_pos ⟨z.1, by omega⟩]
      exact ⟨p0, ws0, rfl, h2, h3, h4, .inl h1⟩
    · rw [if_neg z] at q
      rw [if_neg (by omega)]
      exact R.ac j ds q
  · rw [set_get] at q1 q2 q3 q4
    by_cases z1 : i = j ∧ j < e.length
    · rw [if_pos ⟨z1.1, by omega⟩] at q3
      cases q3
      by_cases z2 : i = k ∧ k < e.length
      · omega
      · rw [if_neg z2] at q2
        rw [if_neg (by omega)] at q4
        exact absurd ⟨k, dk, q2, q4⟩ h5
    · by_cases z2 : i = k ∧ k < e.length
      · rw [if_pos ⟨z2.1, by omega⟩] at q4
        cases q4
        rw [if_neg z1] at q1
        rw [if_neg (by omega)] at q3
        exact absurd ⟨j, dj, q1, q3⟩ h5
      · rw [if_neg z1] at q1
        rw [if_neg z2] at q2
        rw [if_neg (by omega)] at q3
        rw [if_neg (by omega)] at q4
        exact R.inj j k dj dk p q1 q2 q3 q4
/-- slots forgotten -/
theorem Rl.forget {e' : Ev} {σ' : St} (R : Rl K m E G0 G e σ H) (hl : e'.length = e.length) (hs : σ'.length = σ.length) (h : ∀ (i : Nat) (s : Sl), e'[i]? = some (some s) → e[i]? = some (some s) ∧ σ'[i]? = σ[i]?) : Rl K m E G0 G e' σ' H := by
  refine ⟨R.gg, R.gh, R.eh, R.mh, R.nw, by rw [hl, hs]; exact R.len, fun i d q => ?_, fun i ds q => ?_, fun i j di dj p q1 q2 q3 q4 => ?_⟩
  · obtain ⟨h1, h2⟩ := h i _ q
    rw [h2]
    exact R.im i d h1
  · obtain ⟨h1, h2⟩ := h i _ q
    rw [h2]
    exact R.ac i ds h1
  · obtain ⟨h1, h2⟩ := h i _ q1
    obtain ⟨h3, h4⟩ := h j _ q2
    rw [h2] at q3
    rw [h4] at q4
    exact R.inj i j di dj p h1 h3 q3 q4
end

/-! ### targets -/
structure GD (X : Cx) (tg : Expr) (S : List Nat) (γ : PyData → Ev → Option Ev) : Prop where
  ex : ∃ g, PG X tg g ∧ ∀ (m : Option Addr) (E G0 G : Hp) (e : Ev) (σ : St) (H : Hp) (v : V) (d : PyData) (e' : Ev) (Q : St → Hp → Prop),
    Rl X.K m E G0 G e σ H → Dp X.K G v d → γ d e = some e' → (∀ σ', Rl X.K m E G0 G e' σ' H → (∀ i : Nat, i ∉ S → σ'[i]? = σ[i]? ∧ e'[i]? = e[i]?) → σ'.length = σ.length → e'.length = e.length → (∀ i ∈ S, isAc e'[i]? = true → isAc e[i]? = true) → Q σ' H) → g v σ H Q
def tgOf (K : PySem.W.Frag) (S : List Nat) (γ : PyData → Ev → Option Ev) : TG := fun v σ H Q => ∃ m E G0 G e d e', Rl K m E G0 G e σ H ∧ Dp K G v d ∧ γ d e = some e' ∧
  ∀ σ', Rl K m E G0 G e' σ' H → (∀ i : Nat, i ∉ S → σ'[i]? = σ[i]? ∧ e'[i]? = e[i]?) → σ'.length = σ.length → e'.length = e.length → (∀ i ∈ S, isAc e'[i]? = true → isAc e[i]? = true) → Q σ' H
theorem GD.can {X : Cx} {tg : Expr} {S : List Nat} {γ : PyData → Ev → Option Ev} (h : GD X tg S γ) : PG X tg (tgOf X.K S γ) := by
  obtain ⟨g, p, k⟩ := h
  refine ⟨fun pins s σ H v u Q I r q => p.run pins s σ H v u Q I r ?_⟩
  obtain ⟨m, E, G0, G, e, d, e', R, D, q, P⟩ := q
  exact k m E G0 G e σ H v d e' Q R D q P
def g_name (i : Nat) : PyData → Ev → Option Ev := fun d e => some (e.set i (some (.im d)))
def setAll : List Nat → List PyData → Ev → Option Ev
  | [], [], e => some e
  | i :: is, d :: ds, e => setAll is ds (e.set i (some (.im d)))
  | _, _, _ => none
def g_tup (S : List Nat) : PyData → Ev → Option Ev := fun d e => match d with
  | .tuple ds => setAll S ds e
  | _ => none
theorem isAc_set {e : Ev} {i j : Nat} {d : PyData} (h : isAc (e.set i (some (.im d)))[j]? = true) : isAc e[j]? = true := by
  rw [set_get] at h
  by_cases z : i = j ∧ j < e.length
  · rw [if_pos z] at h
    cases h
  · rw [if_neg z] at h
    exact h
/-- names in order -/
structure GsD (X : Cx) (tgs : List Expr) (S : List Nat) : Prop where
  ex : ∃ g : TGs, PGs X tgs g ∧ ∀ (m : Option Addr) (E G0 G : Hp) (e : Ev) (σ : St) (H : Hp) (vs : List V) (ds : List PyData) (e' : Ev) (Q : St → Hp → Prop),
    Rl X.K m E G0 G e σ H → DpAll X.K G vs ds → setAll S ds e = some e' → (∀ σ', Rl X.K m E G0 G e' σ' H → (∀ i : Nat, i ∉ S → σ'[i]? = σ[i]? ∧ e'[i]? = e[i]?) → σ'.length = σ.length → e'.length = e.length → (∀ i ∈ S, isAc e'[i]? = true → isAc e[i]? = true) → Q σ' H) → g vs σ H Q
section
variable {X : Cx} {pos : Pos}
theorem gd_name {i : Nat} {x : Str} (hN : X.N.Nodup) (hi : X.N[i]? = some x) (hx : Loc X.env.scope x) (hf : X.fn x = true ∨ X.env.scope.names.lookup x = some .local := by first | exact .inl rfl | exact .inr rfl | assumption) : GD X (.Name x pos) [i] (g_name i) := by
  refine ⟨_, pg_name hN hi hx hf, fun m E G0 G e σ H v d e' Q R D q P => ?_⟩
  cases q
  refine P _ (R.setI i D) (fun j hj => ?_) (List.length_set ..) (List.length_set ..) fun j _ h => isAc_set h
  have z : i ≠ j := fun z => hj (by rw [z]; exact List.mem_singleton.mpr rfl)
  exact ⟨List.getElem?_set_ne z, List.getElem?_set_ne z⟩
theorem gsd_nil : GsD X [] [] := by
  refine ⟨_, pgs_nil, fun m E G0 G e σ H vs ds e' Q R D q P => ?_⟩
  cases D with
  | nil =>
    cases q
    exact ⟨rfl, P σ R (fun _ _ => ⟨rfl, rfl⟩) rfl rfl fun _ h => by cases h⟩
  | cons _ _ => cases q
theorem gsd_cons {i : Nat} {x : Str} {tgs : List Expr} {S : List Nat} (hN : X.N.Nodup) (hi : X.N[i]? = some x) (hx : Loc X.env.scope x) (hr : GsD X tgs S) (hf : X.fn x = true ∨ X.env.scope.names.lookup x = some .local := by first | exact .inl rfl | exact .inr rfl | assumption)
    (hs : (assignEach (.Name x pos :: tgs) X.env).map (·.2) = assign (.Name x pos) X.env :: (assignEach tgs X.env).map (·.2) := by rfl) : GsD X (.Name x pos :: tgs) (i :: S) := by
  obtain ⟨g, p, k⟩ := hr
  refine ⟨_, pgs_cons (pg_name hN hi hx hf) p hs, fun m E G0 G e σ H vs ds e' Q R D q P => ?_⟩
  cases D with
  | nil => cases q
  | cons h t =>
    refine ⟨_, _, rfl, ?_⟩
    refine k m E G0 G _ _ H _ _ e' Q (R.setI i h) t q fun σ' R' a1 a2 a3 a4 => ?_
    refine P σ' R' (fun j hj => ?_) (a2.trans (List.length_set ..)) (a3.trans (List.length_set ..)) fun j hj h2 => ?_
    · have z : i ≠ j := fun z => hj (by rw [z]; exact List.mem_cons_self)
      obtain ⟨b1, b2⟩ := a1 j fun y => hj (List.mem_cons_of_mem _ y)
      exact ⟨b1.trans (List.getElem?_set_ne z), b2.trans (List.getElem?_set_ne z)⟩
    · by_cases y : j ∈ S
      · exact isAc_set (a4 j y h2)
      · have b2 := (a1 j y).2
        rw [b2] at h2
        exact isAc_set h2
theorem gd_tup {tgs : List Expr} {n : Nat} {S : List Nat} (hc : X.calm = true) (h : GsD X tgs S) (hn : (assignEach tgs X.env).length = S.length := by rfl) (hst : (assignEach tgs X.env).findIdx? (·.1) = none := by rfl) : GD X (.Tuple tgs n pos) S (g_tup S) := by
  obtain ⟨g, p, k⟩ := h
  refine ⟨_, pg_tup (n := S.length) hc p hn hst, fun m E G0 G e σ H v d e' Q R D q P => ?_⟩
  unfold g_tup at q
  split at q
  · rename_i ds
    cases D with
    | tup hT hA =>
      have hl : ∀ {S : List Nat} {ds : List PyData} {e e' : Ev}, setAll S ds e = some e' → S.length = ds.length := by
        intro S
        induction S with
        | nil =>
          intro ds e e' h
          cases ds with
          | nil => rfl
          | cons _ _ => cases h
        | cons i S ih =>
          intro ds e e' h
          cases ds with
          | nil => cases h
          | cons d ds => exact congrArg (· + 1) (ih h)
      exact ⟨_, _, rfl, seqT R.gh hT, by rw [dpAll_len hA, hl q], k m E G0 G e σ H _ _ e' Q R hA q P⟩
  · cases q
end

/-! ### what is walked -/
def Yd (K : PySem.W.Frag) (G H : Hp) (x : V) (H2 : Hp) (d : PyData) : Prop :=
  (H2 = H ∧ Dp K G x d) ∨ ∃ T ws es, x = .ref T ∧ H T = none ∧ H2 = upd H T (.tup ws) ∧ d = .tuple es ∧ DpAll K G ws es
def WalkD (K : PySem.W.Frag) (G0 : Hp) (J : It) (ds : List PyData) : Prop :=
  ∀ G H, Same G0 G → Same G H → (∀ i d, ds[i]? = some d → J.go i H ∧ ∀ x H2, J.yld i H x H2 → Yd K G H x H2 d) ∧ J.stop ds.length H
abbrev Fi := Ev → Option (List PyData × Ev)
structure ID (X : Cx) (tg it : Expr) (f : Fi) : Prop where
  ex : ∃ wi, PI X tg it wi ∧ ∀ (m : Option Addr) (E G0 G : Hp) (e : Ev) (σ : St) (H : Hp) (ds : List PyData) (e' : Ev) (Q : It → Hp → Prop),
    Rl X.K m E G0 G e σ H → f e = some (ds, e') → (∀ J G' H', Rl X.K m E G0 G' e' σ H' → Stp σ G H e G' H' e' → WalkD X.K G' J ds → Q J H') → wi σ H Q
theorem pi_or {X : Cx} {tg it : Expr} {w1 w2 : TI} (h1 : PI X tg it w1) (h2 : PI X tg it w2) : PI X tg it (fun σ H R => w1 σ H R ∨ w2 σ H R) :=
  ⟨fun pins s σ H R I h => h.elim (h1.run pins s σ H R I) (h2.run pins s σ H R I)⟩
section
variable {K : PySem.W.Frag} {G0 : Hp} {a b : Addr} {xs ys : List V} {ds es : List PyData}
theorem walk_list (h : SqL K G0 a xs) (q : DpAll K G0 xs ds) : WalkD K G0 (Itl K a) ds := by
  intro G H s1 s2
  have hq : SqL K H a xs := (s1.trans s2).seq h
  refine ⟨fun i d e => ?_, xs, hq, by rw [dpAll_len q]; exact Nat.le_refl _⟩
  obtain ⟨v, e1, e2⟩ := dpAll_get q e
  refine ⟨⟨xs, v, hq, e1⟩, fun x H2 y => .inl ⟨y.1, ?_⟩⟩
  have z := y.2 xs hq
  rw [e1] at z
  cases z
  exact dp_same s1 e2
theorem walk_tup (h : SqT K G0 a xs) (q : DpAll K G0 xs ds) : WalkD K G0 (Itt K a) ds := by
  intro G H s1 s2
  have hq : SqT K H a xs := seqT (s1.trans s2) h
  refine ⟨fun i d e => ?_, xs, hq, by rw [dpAll_len q]; exact Nat.le_refl _⟩
  obtain ⟨v, e1, e2⟩ := dpAll_get q e
  refine ⟨⟨xs, v, hq, e1⟩, fun x H2 y => .inl ⟨y.1, ?_⟩⟩
  have z := y.2 xs hq
  rw [e1] at z
  cases z
  exact dp_same s1 e2
def rngD (lo : Int) (n : Nat) (c : Int) : List PyData := (List.range n).map fun (i : Nat) => PyData.int (lo + (i : Int) * c)
theorem rng_at {lo : Int} {n : Nat} {c : Int} {i : Nat} {d : PyData} (e : (rngD lo n c)[i]? = some d) : i < n ∧ d = .int (lo + (i : Int) * c) := by
  unfold rngD at e
  rw [List.getElem?_map] at e
  cases z : (List.range n)[i]? with
  | none => rw [z] at e; cases e
  | some j =>
    rw [z] at e
    obtain ⟨h1, h2⟩ := List.getElem?_eq_some_iff.mp z
    rw [List.length_range] at h1
    rw [List.getElem_range] at h2
    subst h2
    cases e
    exact ⟨h1, rfl⟩
theorem walk_rng {lo : Int} {n : Nat} : WalkD K G0 (Itr lo n) (rngD lo n 1) := by
  intro G H s1 s2
  refine ⟨fun i d e => ?_, by unfold rngD; rw [List.length_map, List.length_range]; exact Nat.le_refl n⟩
  obtain ⟨h1, rfl⟩ := rng_at e
  refine ⟨h1, fun x H2 y => .inl ⟨y.1, ?_⟩⟩
  rw [y.2, Int.mul_one]
  exact .int _
theorem walk_rngc {lo : Int} {n : Nat} {c : Int} : WalkD K G0 (Itc lo c n) (rngD lo n c) := by
  intro G H s1 s2
  refine ⟨fun i d e => ?_, by unfold rngD; rw [List.length_map, List.length_range]; exact Nat.le_refl n⟩
  obtain ⟨h1, rfl⟩ := rng_at e
  refine ⟨h1, fun x H2 y => .inl ⟨y.1, ?_⟩⟩
  have z : x = .int (lo + (i : Int) * c) := y.2
  rw [z]
  exact .int _
theorem rev_get {α : Type} {l : List α} {i : Nat} {x : α} (h : l.reverse[i]? = some x) : i < l.length ∧ l[l.length - 1 - i]? = some x := by
  have hi : i < l.length := by
    have := (List.getElem?_eq_some_iff.mp h).1
    rw [List.length_reverse] at this
    exact this
  refine ⟨hi, ?_⟩
  rw [List.getElem?_reverse hi] at h
  exact h
theorem walk_rev (h : SqL K G0 a xs) (q : DpAll K G0 xs ds) : WalkD K G0 (Itv K a xs.length) ds.reverse := by
  intro G H s1 s2
  have hq : SqL K H a xs := (s1.trans s2).seq h
  refine ⟨fun i d e => ?_, by rw [List.length_reverse, ← dpAll_len q]; exact Nat.le_refl _⟩
  obtain ⟨hi, e⟩ := rev_get e
  obtain ⟨v, e1, e2⟩ := dpAll_get q e
  rw [← dpAll_len q] at hi e1
  refine ⟨⟨hi, xs, v, hq, e1⟩, fun x H2 y => .inl ⟨y.1, ?_⟩⟩
  have z := y.2 xs hq
  rw [e1] at z
  cases z
  exact dp_same s1 e2
theorem walk_revT (h : SqT K G0 a xs) (q : DpAll K G0 xs ds) : WalkD K G0 (ItvT K a xs.length) ds.reverse := by
  intro G H s1 s2
  have hq : SqT K H a xs := seqT (s1.trans s2) h
  refine ⟨fun i d e => ?_, by rw [List.length_reverse, ← dpAll_len q]; exact Nat.le_refl _⟩
  obtain ⟨hi, e⟩ := rev_get e
  obtain ⟨v, e1, e2⟩ := dpAll_get q e
  rw [← dpAll_len q] at hi e1
  refine ⟨⟨hi, xs, v, hq, e1⟩, fun x H2 y => .inl ⟨y.1, ?_⟩⟩
  have z := y.2 xs hq
  rw [e1] at z
  cases z
  exact dp_same s1 e2
def zipD (ds es : List PyData) : List PyData := List.zipWith (fun a b => PyData.tuple [a, b]) ds es
theorem zip_at {i : Nat} {d : PyData} (e : (zipD ds es)[i]? = some d) : ∃ x y, ds[i]? = some x ∧ es[i]? = some y ∧ d = .tuple [x, y] := by
  unfold zipD at e
  rw [List.getElem?_zipWith] at e
  cases h1 : ds[i]? with
  | none => rw [h1] at e; cases e
  | some x =>
    cases h2 : es[i]? with
    | none => rw [h1, h2] at e; cases e
    | some y =>
      rw [h1, h2] at e
      cases e
      exact ⟨x, y, rfl, rfl, rfl⟩
theorem walk_zip (h : SqL K G0 a xs) (q : DpAll K G0 xs ds) (h' : SqL K G0 b ys) (q' : DpAll K G0 ys es) : WalkD K G0 (Itz K a b) (zipD ds es) := by
  intro G H s1 s2
  have hq : SqL K H a xs := (s1.trans s2).seq h
  have hq' : SqL K H b ys := (s1.trans s2).seq h'
  refine ⟨fun i d e => ?_, xs, ys, hq, hq', ?_⟩
  · obtain ⟨x, y, e1, e2, rfl⟩ := zip_at e
    obtain ⟨v, f1, f2⟩ := dpAll_get q e1
    obtain ⟨v', f1', f2'⟩ := dpAll_get q' e2
    refine ⟨⟨xs, ys, v, v', hq, hq', f1, f1'⟩, fun w H2 y => .inr ?_⟩
    obtain ⟨T, x1, x2, rfl, nT, rfl, z1, z2⟩ := y
    have g1 := z1 xs hq
    have g2 := z2 ys hq'
    rw [f1] at g1
    rw [f1'] at g2
    cases g1
    cases g2
    exact ⟨T, [v, v'], _, rfl, nT, rfl, rfl, .cons (dp_same s1 f2) (.cons (dp_same s1 f2') .nil)⟩
  · unfold zipD
    rw [List.length_zipWith, ← dpAll_len q, ← dpAll_len q']
    omega
theorem walk_zipT (h : SqT K G0 a xs) (q : DpAll K G0 xs ds) (h' : SqT K G0 b ys) (q' : DpAll K G0 ys es) : WalkD K G0 (ItzT K a b) (zipD ds es) := by
  intro G H s1 s2
  have hq : SqT K H a xs := seqT (s1.trans s2) h
  have hq' : SqT K H b ys := seqT (s1.trans s2) h'
  refine ⟨fun i d e => ?_, xs, ys, hq, hq', ?_⟩
  · obtain ⟨x, y, e1, e2, rfl⟩ := zip_at e
    obtain ⟨v, f1, f2⟩ := dpAll_get q e1
    obtain ⟨v', f1', f2'⟩ := dpAll_get q' e2
    refine ⟨⟨xs, ys, v, v', hq, hq', f1, f1'⟩, fun w H2 y => .inr ?_⟩
    obtain ⟨T, x1, x2, rfl, nT, rfl, z1, z2⟩ := y
    have g1 := z1 xs hq
    have g2 := z2 ys hq'
    rw [f1] at g1
    rw [f1'] at g2
    cases g1
    cases g2
    exact ⟨T, [v, v'], _, rfl, nT, rfl, rfl, .cons (dp_same s1 f2) (.cons (dp_same s1 f2') .nil)⟩
  · unfold zipD
    rw [List.length_zipWith, ← dpAll_len q, ← dpAll_len q']
    omega
end
/-- a list or a tuple that stays -/
def i_seq (f : Fe) : Fi := fun e => match f e with
  | some (r, e1) => (match frzR r with
    | .im (.list ds) => some (ds, e1)
    | .im (.tuple ds) => some (ds, e1)
    | _ => none)
  | none => none
theorem i_seq_ok {f : Fe} {e e' : Ev} {ds : List PyData} (q : i_seq f e = some (ds, e')) : ∃ r, f e = some (r, e') ∧ (frzR r = .im (.list ds) ∨ frzR r = .im (.tuple ds)) := by
  unfold i_seq at q
  split at q
  · rename_i r e1 h
    split at q
    · rename_i es h2
      cases q
      exact ⟨r, h, .inl h2⟩
    · rename_i es h2
      cases q
      exact ⟨r, h, .inr h2⟩
    · cases q
  · cases q
section
variable {X : Cx} {tg a b c : Expr} {fa fb fc : Fe} {pos p : Pos}
theorem id_seq (ha : ED X a fa) : ID X tg a (i_seq fa) := by
  obtain ⟨t, pa, k⟩ := ha
  refine ⟨_, pi_or (pi_list pa) (pi_tup pa), fun m E G0 G e σ H ds e' Q R q P => ?_⟩
  obtain ⟨r, q1, q2⟩ := i_seq_ok q
  rcases q2 with q2 | q2
  · refine .inl (k m E G0 G e σ H r e' _ R q1 fun v G1 H1 R1 S1 V1 N1 => ?_)
    obtain ⟨G1', R1', S1', s1, V1'⟩ := R1.freeze S1 V1 N1
    rw [q2] at V1'
    have V2 : Dp X.K G1' v (.list ds) := V1'
    cases V2 with
    | lst h z => exact ⟨_, rfl, ⟨_, R1'.gh.seq h⟩, P _ _ _ R1' S1' (walk_list h z)⟩
  · refine .inr (k m E G0 G e σ H r e' _ R q1 fun v G1 H1 R1 S1 V1 N1 => ?_)
    obtain ⟨G1', R1', S1', s1, V1'⟩ := R1.freeze S1 V1 N1
    rw [q2] at V1'
    have V2 : Dp X.K G1' v (.tuple ds) := V1'
    cases V2 with
    | tup h z => exact ⟨_, rfl, ⟨_, seqT R1'.gh h⟩, P _ _ _ R1' S1' (walk_tup h z)⟩
/-- reversed(xs) -/
def i_rev (f : Fe) : Fi := fun e => match i_seq f e with
  | some (ds, e1) => some (ds.reverse, e1)
  | none => none
theorem id_rev (ha : ED X a fa) (hm : X.mg "reversed" = none) (hg : Gl X "reversed" := by rfl) (hs : starEach [a] X.env = (false, eval a X.env) :: starEach [] X.env := by rfl) : ID X tg (.Call (.Name "reversed" p) [a] [] pos) (i_rev fa) := by
  obtain ⟨t, pa, k⟩ := ha
  refine ⟨_, pi_revA hg hm pa hs, fun m E G0 G e σ H ds e' Q R q P => ?_⟩
  unfold i_rev at q
  cases h0 : i_seq fa e with
  | none => simp only [h0] at q; cases q
  | some z =>
    obtain ⟨es, e1⟩ := z
    simp only [h0, Option.some.injEq, Prod.mk.injEq] at q
    obtain ⟨rfl, rfl⟩ := q
    obtain ⟨r, q1, q2⟩ := i_seq_ok h0
    refine k m E G0 G e σ H r e1 _ R q1 fun v G1 H1 R1 S1 V1 N1 => ?_
    obtain ⟨G1', R1', S1', s1, V1'⟩ := R1.freeze S1 V1 N1
    rcases q2 with q2 | q2
    · rw [q2] at V1'
      have V2 : Dp X.K G1' v (.list es) := V1'
      cases V2 with
      | lst h z => exact ⟨_, _, rfl, .inl ⟨R1'.gh.seq h, P _ _ _ R1' S1' (walk_rev h z)⟩⟩
    · rw [q2] at V1'
      have V2 : Dp X.K G1' v (.tuple es) := V1'
      cases V2 with
      | tup h z => exact ⟨_, _, rfl, .inr ⟨seqT R1'.gh h, P _ _ _ R1' S1' (walk_revT h z)⟩⟩
/-- range -/
def rgC (i : Int) : Bool := decide (-4611686018427387904 ≤ i ∧ i < 4611686018427387904)
theorem rgC_ok {i : Int} (h : rgC i = true) : -(2 ^ 62) ≤ i ∧ i < 2 ^ 62 := by
  have h := of_decide_eq_true h
  have e : (2 : Int) ^ 62 = 4611686018427387904 := by decide
  rw [e]
  exact h
def i_rng1 (fa : Fe) : Fi := fun e => match fa e with
  | some (.im (.int j), e1) => if rgC j = true then some (rngD 0 j.toNat 1, e1) else none
  | _ => none
def i_rng2 (fa fb : Fe) : Fi := fun e => match fa e with
  | some (.im (.int i), e1) => (match fb e1 with
    | some (.im (.int j), e2) => if (rgC i && rgC j) = true then some (rngD i (j - i).toNat 1, e2) else none
    | _ => none)
  | _ => none
def i_rng3 (fa fb fc : Fe) : Fi := fun e => match fa e with
  | some (.im (.int i), e1) => (match fb e1 with
    | some (.im (.int j), e2) => (match fc e2 with
      | some (.im (.int c), e3) => if (rgC i && (rgC j && decide (c = -1))) = true then some (rngD i (i - j).toNat (-1), e3) else none
      | _ => none)
    | _ => none)
  | _ => none
theorem id_rng1 (ha : ED X a fa) (hm : X.mg "range" = none) (hg : Gl X "range" := by rfl) (hs : starEach [a] X.env = [(false, eval a X.env)] := by rfl) : ID X tg (.Call (.Name "range" p) [a] [] pos) (i_rng1 fa) := by
  obtain ⟨t, pa, k⟩ := ha
  refine ⟨_, pi_range1 hg hm (pa_cons pa pa_nil hs) hs, fun m E G0 G e σ H ds e' Q R q P => ?_⟩
  unfold i_rng1 at q
  split at q
  · rename_i j e1 h1
    by_cases z : rgC j = true
    · rw [if_pos z] at q
      simp only [Option.some.injEq, Prod.mk.injEq] at q
      obtain ⟨rfl, rfl⟩ := q
      refine k m E G0 G e σ H _ e1 _ R h1 fun v G1 H1 R1 S1 V1 _ => ?_
      cases V1
      obtain ⟨z1, z2⟩ := rgC_ok z
      exact ⟨j, rfl, z1, z2, P _ _ _ R1 S1 walk_rng⟩
    · rw [if_neg z] at q
      cases q
  · cases q
theorem id_rng2 (ha : ED X a fa) (hb : ED X b fb) (hm : X.mg "range" = none) (hg : Gl X "range" := by rfl) (hs : starEach [a, b] X.env = [(false, eval a X.env), (false, eval b X.env)] := by rfl) (hs2 : starEach [b] X.env = [(false, eval b X.env)] := by rfl) : ID X tg (.Call (.Name "range" p) [a, b] [] pos) (i_rng2 fa fb) := by
  obtain ⟨t, pa, k⟩ := ha
  obtain ⟨t2, pb, k2⟩ := hb
  refine ⟨_, pi_range2 hg hm (pa_cons pa (pa_cons pb pa_nil hs2) (by rw [hs, hs2])) hs hs2, fun m E G0 G e σ H ds e' Q R q P => ?_⟩
  unfold i_rng2 at q
  split at q
  · rename_i i e1 h1
    split at q
    · rename_i j e2 h2
      by_cases z : (rgC i && rgC j) = true
      · rw [if_pos z] at q
        simp only [Option.some.injEq, Prod.mk.injEq] at q
        obtain ⟨rfl, rfl⟩ := q
        refine k m E G0 G e σ H _ e1 _ R h1 fun v G1 H1 R1 S1 V1 _ => ?_
        refine k2 m E G0 G1 e1 σ H1 _ e2 _ R1 h2 fun v2 G2 H2 R2 S2 V2 _ => ?_
        cases V1
        cases V2
        obtain ⟨z1, z2⟩ := Bool.and_eq_true_iff.mp z
        have z1 := rgC_ok z1
        have z2 := rgC_ok z2
        exact ⟨i, j, rfl, ⟨z1.1, z1.2, z2.1, z2.2⟩, P _ _ _ R2 (S1.trans S2) walk_rng⟩
      · rw [if_neg z] at q
        cases q
    · cases q
  · cases q
theorem id_rng3 (ha : ED X a fa) (hb : ED X b fb) (hc : ED X c fc) (hm : X.mg "range" = none) (hg : Gl X "range" := by rfl) (hs : starEach [a, b, c] X.env = (false, eval a X.env) :: starEach [b, c] X.env := by rfl) (hs2 : starEach [b, c] X.env = (false, eval b X.env) :: starEach [c] X.env := by rfl) (hs3 : starEach [c] X.env = (false, eval c X.env) :: starEach [] X.env := by rfl)
    (hpl : (backTo pos (starEach [b, c] X.env)).any (·.1) = false := by rfl) : ID X tg (.Call (.Name "range" p) [a, b, c] [] pos) (i_rng3 fa fb fc) := by
  obtain ⟨t, pa, k⟩ := ha
  obtain ⟨t2, pb, k2⟩ := hb
  obtain ⟨t3, pc, k3⟩ := hc
  refine ⟨_, pi_range3 hg hm (pa_cons pa (pa_cons pb (pa_cons pc pa_nil hs3) hs2) hs) hs hpl, fun m E G0 G e σ H ds e' Q R q P => ?_⟩
  unfold i_rng3 at q
  split at q
  · rename_i i e1 h1
    split at q
    · rename_i j e2 h2
      split at q
      · rename_i cc e3 h3
        by_cases z : (rgC i && (rgC j && decide (cc = -1))) = true
        · rw [if_pos z] at q
          simp only [Option.some.injEq, Prod.mk.injEq] at q
          obtain ⟨rfl, rfl⟩ := q
          refine k m E G0 G e σ H _ e1 _ R h1 fun v G1 H1 R1 S1 V1 _ => ?_
          refine k2 m E G0 G1 e1 σ H1 _ e2 _ R1 h2 fun v2 G2 H2 R2 S2 V2 _ => ?_
          refine k3 m E G0 G2 e2 σ H2 _ e3 _ R2 h3 fun v3 G3 H3 R3 S3 V3 _ => ?_
          cases V1
          cases V2
          cases V3
          obtain ⟨z1, z2⟩ := Bool.and_eq_true_iff.mp z
          obtain ⟨z4, z5⟩ := Bool.and_eq_true_iff.mp z2
          have y1 := rgC_ok z1
          have y2 := rgC_ok z4
          have y3 := of_decide_eq_true z5
          subst y3
          exact ⟨i, j, -1, _, rfl, RgC.neg y1.1 y1.2 y2.1 y2.2, P _ _ _ R3 (S1.trans (S2.trans S3)) walk_rngc⟩
        · rw [if_neg z] at q
          cases q
      · cases q
    · cases q
  · cases q
/-- zip of two lists, of two tuples -/
def i_zip (fa fb : Fe) : Fi := fun e => match two fa fb e with
  | some (.im (.list xs), .im (.list ys), e1) => some (zipD xs ys, e1)
  | some (.im (.tuple xs), .im (.tuple ys), e1) => some (zipD xs ys, e1)
  | _ => none
theorem id_zip {es : List Expr} {kk : Nat} {tpos : Pos} (ha : ED X a fa) (hb : ED X b fb) (hm : X.mg "zip" = none) (hg : Gl X "zip" := by rfl) (hs : starEach [a, b] X.env = (false, eval a X.env) :: starEach [b] X.env := by rfl) (hs2 : starEach [b] X.env = (false, eval b X.env) :: starEach [] X.env := by rfl)
    (hpl : (backTo pos (starEach [b] X.env)).any (·.1) = false := by rfl) : ID X (.Tuple es kk tpos) (.Call (.Name "zip" p) [a, b] [] pos) (i_zip fa fb) := by
  obtain ⟨ta, tb, pa, pb, k2⟩ := two_ok ha hb
  refine ⟨_, pi_zipA hg hm (pa_cons pa (pa_cons pb pa_nil hs2) hs) hs hpl, fun m E G0 G e σ H ds e' Q R q P => ?_⟩
  unfold i_zip at q
  split at q
  · rename_i xs ys e1 h1
    simp only [Option.some.injEq, Prod.mk.injEq] at q
    obtain ⟨rfl, rfl⟩ := q
    refine k2 m E G0 G e σ H _ _ e1 _ R h1 fun u v G' H' R' S' V1 V2 => ?_
    have V1 : Dp X.K G' u (.list xs) := V1
    have V2 : Dp X.K G' v (.list ys) := V2
    cases V1 with
    | lst h1 d1 =>
      cases V2 with
      | lst h2 d2 => exact ⟨_, _, _, _, rfl, .inl ⟨R'.gh.seq h1, R'.gh.seq h2, P _ _ _ R' S' (walk_zip h1 d1 h2 d2)⟩⟩
  · rename_i xs ys e1 h1
    simp only [Option.some.injEq, Prod.mk.injEq] at q
    obtain ⟨rfl, rfl⟩ := q
    refine k2 m E G0 G e σ H _ _ e1 _ R h1 fun u v G' H' R' S' V1 V2 => ?_
    have V1 : Dp X.K G' u (.tuple xs) := V1
    have V2 : Dp X.K G' v (.tuple ys) := V2
    cases V1 with
    | tup h1 d1 =>
      cases V2 with
      | tup h2 d2 => exact ⟨_, _, _, _, rfl, .inr ⟨seqT R'.gh h1, seqT R'.gh h2, P _ _ _ R' S' (walk_zipT h1 d1 h2 d2)⟩⟩
  · cases q
end
end DL
namespace DL
open L2 PySem PySem.Spec PyProof.Rows

/-! ### comprehensions -/
def wipeE (e : Ev) : List Nat → Ev
  | [] => e
  | v :: vs => (wipeE e vs).set v none
def restE (e e' : Ev) : List Nat → Ev
  | [] => e'
  | v :: vs => (restE e e' vs).set v (match e[v]? with
    | some s => s
    | none => none)
def noAc (e : Ev) (vs : List Nat) : Bool := vs.all fun i => !isAc e[i]?
def lcGo (γ : PyData → Ev → Option Ev) (tst : Ft) (fe : Fe) (vs : List Nat) : List PyData → Ev → List PyData → Option (List PyData × Ev)
  | [], e, acc => some (acc, e)
  | d :: ds, e, acc => match γ d e with
    | some e1 => (match tst e1 with
      | some (true, e2) => (match fe e2 with
        | some (r, e3) => (match imR (frzR r) with
          | some y => if okLen (acc.length + 1) = true then lcGo γ tst fe vs ds (wipeE e3 vs) (acc ++ [y]) else none
          | none => none)
        | none => none)
      | some (false, e2) => lcGo γ tst fe vs ds (wipeE e2 vs) acc
      | none => none)
    | none => none
def x_lc (fi : Fi) (γ : PyData → Ev → Option Ev) (tst : Ft) (fe : Fe) (vs : List Nat) : Fe := fun e => match fi e with
  | some (ds, e1) => if noAc e1 vs = true then (match lcGo γ tst fe vs ds (wipeE e1 vs) [] with
    | some (acc, e2) => some (.ac acc, restE e1 e2 vs)
    | none => none) else none
  | none => none
section
variable {e e' : Ev} {vs : List Nat} {σ σ' : St} {i : Nat}
theorem wipeE_len : ∀ vs : List Nat, (wipeE e vs).length = e.length
  | [] => rfl
  | v :: vs => (List.length_set ..).trans (wipeE_len vs)
theorem wipeE_out : ∀ {vs : List Nat}, i ∉ vs → (wipeE e vs)[i]? = e[i]?
  | [], _ => rfl
  | v :: vs, h => by
    have h1 : v ≠ i := fun z => h (by rw [z]; exact List.mem_cons_self)
    unfold wipeE
    rw [List.getElem?_set_ne h1]
    exact wipeE_out fun z => h (List.mem_cons_of_mem _ z)
theorem wipeE_in : ∀ {vs : List Nat} {s : Sl}, (wipeE e vs)[i]? = some (some s) → i ∉ vs
  | [], _, _ => by simp
  | v :: vs, s, h => by
    unfold wipeE at h
    rw [set_get] at h
    by_cases z : v = i ∧ i < (wipeE e vs).length
    · rw [if_pos z] at h
      cases h
    · rw [if_neg z] at h
      have hl := (List.getElem?_eq_some_iff.mp h).1
      intro q
      rcases List.mem_cons.mp q with q | q
      · exact z ⟨q.symm, hl⟩
      · exact wipeE_in h q
theorem wipe_in : ∀ {vs : List Nat}, i ∈ vs → (wipe σ vs)[i]? = if i < σ.length then some none else none
  | [], h => by cases h
  | v :: vs, h => by
    unfold wipe
    rw [set_get, wipe_length]
    by_cases z : v = i ∧ i < σ.length
    · rw [if_pos z, if_pos z.2]
    · rw [if_neg z]
      by_cases y : i ∈ vs
      · exact wipe_in y
      · have e1 : i = v := by
          (rcases List.mem_cons.mp h with q | q)
          · exact q
          · exact absurd q y
        have hl : ¬ i < σ.length := fun q => z ⟨e1.symm, q⟩
        rw [if_neg hl, wipe_out y]
        exact List.getElem?_eq_none (by omega)
theorem wipe_same (h : ∀ i : Nat, i ∉ vs → σ'[i]? = σ[i]?) (hl : σ'.length = σ.length) : wipe σ' vs = wipe σ vs := by
  apply List.ext_getElem?
  intro i
  by_cases z : i ∈ vs
  · rw [wipe_in z, wipe_in z, hl]
  · rw [wipe_out z, wipe_out z]
    exact h i z
theorem wipe_wipe : wipe (wipe σ vs) vs = wipe σ vs := wipe_same (fun i z => wipe_out z) (wipe_length _ _)
theorem restE_len : ∀ vs : List Nat, (restE e e' vs).length = e'.length
  | [] => rfl
  | v :: vs => (List.length_set ..).trans (restE_len vs)
theorem restE_out : ∀ {vs : List Nat}, i ∉ vs → (restE e e' vs)[i]? = e'[i]?
  | [], _ => rfl
  | v :: vs, h => by
    have h1 : v ≠ i := fun z => h (by rw [z]; exact List.mem_cons_self)
    unfold restE
    rw [List.getElem?_set_ne h1]
    exact restE_out fun z => h (List.mem_cons_of_mem _ z)
theorem restE_in (hl : e'.length = e.length) : ∀ {vs : List Nat}, i ∈ vs → (restE e e' vs)[i]? = e[i]?
  | [], h => by cases h
  | v :: vs, h => by
    unfold restE
    rw [set_get, restE_len]
    by_cases z : v = i ∧ i < e'.length
    · rw [if_pos z]
      have h2 : i < e.length := by omega
      rw [z.1, List.getElem?_eq_getElem h2]
    · rw [if_neg z]
      by_cases y : i ∈ vs
      · exact restE_in hl y
      · have e1 : i = v := by
          (rcases List.mem_cons.mp h with q | q)
          · exact q
          · exact absurd q y
        have h2 : ¬ i < e'.length := fun q => z ⟨e1.symm, q⟩
        rw [restE_out y, List.getElem?_eq_none (by omega), List.getElem?_eq_none (by omega)]
theorem noAc_at (h : noAc e vs = true) (hi : i ∈ vs) : isAc e[i]? = false := by
  have q := List.all_eq_true.mp h i hi
  simpa using q
end
section
variable {K : PySem.W.Frag} {m : Option Addr} {E G0 G H : Hp} {e : Ev} {σ : St} {vs : List Nat} {D : Addr} {ws : List V}
theorem Rl.wipe (R : Rl K m E G0 G e σ H) (vs : List Nat) : Rl K m E G0 G (wipeE e vs) (L2.wipe σ vs) H :=
  R.forget (wipeE_len _) (wipe_length _ _) fun i s h => by
    have z := wipeE_in h
    rw [wipeE_out z] at h
    exact ⟨h, wipe_out z⟩
theorem own_wipe (h : noAc e vs = true) {a : Addr} : Own (L2.wipe σ vs) (wipeE e vs) a ↔ Own σ e a := by
  constructor
  · rintro ⟨i, ds, h1, h2⟩
    have z := wipeE_in h1
    rw [wipeE_out z] at h1
    rw [wipe_out z] at h2
    exact ⟨i, ds, h1, h2⟩
  · rintro ⟨i, ds, h1, h2⟩
    have z : i ∉ vs := fun z => by
      have q := noAc_at h z
      rw [h1] at q
      cases q
    exact ⟨i, ds, by rw [wipeE_out z]; exact h1, by rw [wipe_out z]; exact h2⟩
/-- a list that is nobody's is written -/
theorem Rl.updD (R : Rl K m E G0 G e σ H) (hG : G D = none) (hE : E D = none) (hO : ¬ Own σ e D) : Rl K m E G0 G e σ (upd H D (.lst ws)) := by
  refine ⟨R.gg, fun b o q => ?_, fun b o q1 q2 => ?_, fun b q => ⟨(R.mh b q).1, ?_⟩, R.nw, R.len, R.im, fun i ds q => ?_, R.inj⟩
  · rw [upd_ne (ne_of_none q hG)]
    exact R.gh b o q
  · rw [upd_ne (ne_of_none q1 hE)]
    exact R.eh b o q1 q2
  · have z : b ≠ D := fun z => (R.mh b q).1 (by rw [z]; exact hE)
    rw [upd_ne z]
    exact (R.mh b q).2
  · obtain ⟨p, ws', h1, h2, h3, h4, h5⟩ := R.ac i ds q
    have z : p ≠ D := fun z => hO ⟨i, ds, q, by rw [← z]; exact h1⟩
    exact ⟨p, ws', h1, h2, by rw [upd_ne z]; exact h3, h4, h5⟩
end
section
variable {X : Cx}
/-- the loop -/
theorem lc_ok {m : Option Addr} {E G0 G1 H1 : Hp} {e1 : Ev} {σ : St} {ds : List PyData} {J : It} {S vs : List Nat} {γ : PyData → Ev → Option Ev} {tst : Ft} {fe : Fe} {acc : List PyData} {eF : Ev} {K : PySem.W.Frag} {Q : VK} {D : Addr}
    (R1 : Rl K m E G0 G1 e1 σ H1) (WD : WalkD K G1 J ds) (hS : ∀ i ∈ S, i ∈ vs) (hn : noAc e1 vs = true) (q : lcGo γ tst fe vs ds (wipeE e1 vs) [] = some (acc, eF)) (hD : H1 D = none)
    (P : ∀ G H, Rl K m E G0 G (restE e1 eF vs) σ H → Stp σ G1 H1 e1 G H (restE e1 eF vs) → Vr K E G H σ (restE e1 eF vs) (.ref D) (.ac acc) → Q (.ref D) H) :
    ∃ W : Nat → Nat → Hp → Prop, (∃ mm, W 0 mm (upd H1 D (.lst []))) ∧ ∀ i mm H, W i mm H →
      (J.stop i H ∧ Q (.ref D) H) ∨ (J.go i H ∧ ∃ Nx : Hp → Prop, (∀ H', Nx H' → ∃ m', m' < mm ∧ W (i + 1) m' H') ∧ ∀ x H', J.yld i H x H' → tgOf K S γ x (L2.wipe σ vs) H' fun σ2 H2 => L2.wipe σ2 vs = L2.wipe σ vs ∧ ttOf K tst σ2 H2 fun b H3 =>
        if b = true then teOf K fe σ2 H3 fun y H4 => ∃ acc, H4 D = some (.lst acc) ∧ acc.length < sizeLine ∧ Nx (upd H4 D (.lst (acc ++ [y]))) else Nx H3) := by
  obtain ⟨gD, eD, oD, mD⟩ := R1.fresh hD
  let W : Nat → Nat → Hp → Prop := fun i mm H => ∃ G e ac ws, mm = ds.length - i ∧ i ≤ ds.length ∧ Rl K m E G0 G e (L2.wipe σ vs) H ∧ Stp (L2.wipe σ vs) G1 H1 (wipeE e1 vs) G H e ∧ G D = none ∧ H D = some (.lst ws) ∧ DpAll K G ws ac ∧ lcGo γ tst fe vs (ds.drop i) e ac = some (acc, eF)
  refine ⟨W, ⟨ds.length, G1, wipeE e1 vs, [], [], by simp, Nat.zero_le _, ?_, ?_, gD, upd_same, .nil, by simpa using q⟩, ?_⟩
  · exact ((R1.wipe vs).newL hD .nil).1
  · exact ((R1.wipe vs).newL hD (ds := []) .nil).2.1
  rintro i mm H ⟨G, e, ac, ws, rfl, hi, R, S1, hG, hH, dv, lc⟩
  -- what is nobody's
  have noD : ¬ Own (L2.wipe σ vs) e D := fun z => oD ((own_wipe hn).mp ((own_kd S1.kd).mp z))
  obtain ⟨wk, stop⟩ := WD G H S1.gg R.gh
  by_cases hlt : i < ds.length
  · have hd : ds.drop i = ds[i] :: ds.drop (i + 1) := by rw [List.drop_eq_getElem_cons hlt]
    have hget : ds[i]? = some ds[i] := List.getElem?_eq_getElem hlt
    rw [hd] at lc
    generalize ds[i] = d at lc hget hd
    obtain ⟨go, yl⟩ := wk i d hget
    refine .inr ⟨go, W (i + 1) (ds.length - (i + 1)), fun H' h => ⟨_, by omega, h⟩, fun x H' y => ?_⟩
    -- what is yielded
    have hY : ∃ G', Rl K m E G0 G' e (L2.wipe σ vs) H' ∧ Stp (L2.wipe σ vs) G H e G' H' e ∧ Dp K G' x d := by
      rcases yl x H' y with ⟨rfl, h⟩ | ⟨T, us, es, rfl, nT, rfl, rfl, h⟩
      · exact ⟨G, R, Stp.refl, h⟩
      · obtain ⟨R', S', D'⟩ := R.newT nT h
        exact ⟨_, R', S', D'⟩
    obtain ⟨G', R', S', dx⟩ := hY
    have gD' : G' D = none := S'.nw D hG (by rw [hH]; simp)
    have hD' : H' D = some (.lst ws) := S'.hh D _ hH noD
    -- the turn's own steps
    simp only [lcGo] at lc
    cases h1 : γ d e with
    | none => simp only [h1] at lc; cases lc
    | some e2 =>
      simp only [h1] at lc
      refine ⟨m, E, G0, G', e, d, e2, R', dx, h1, fun σ' R2 out sl el ac1 => ?_⟩
      have wsame : L2.wipe σ' vs = L2.wipe σ vs := by
        have z := wipe_same (vs := vs) (σ' := σ') (σ := L2.wipe σ vs) (fun i hi => (out i fun z => hi (hS i z)).1) sl
        rw [wipe_wipe] at z
        exact z
      refine ⟨wsame, ?_⟩
      have vsE : ∀ i ∈ vs, isAc e[i]? = false := fun i hi => by
        rw [S1.kd i]
        cases z : (wipeE e1 vs)[i]? with
        | none => rfl
        | some s =>
          cases s with
          | none => rfl
          | some s => exact absurd hi (wipeE_in z)
      have own2 : ∀ a, Own σ' e2 a → Own (L2.wipe σ vs) e a := fun a ⟨j, dj, z1, z2⟩ => by
        by_cases hj : j ∈ S
        · have q1 := ac1 j hj (by rw [z1]; rfl)
          rw [vsE j (hS j hj)] at q1
          cases q1
        · obtain ⟨o1, o2⟩ := out j hj
          exact ⟨j, dj, by rw [← o2]; exact z1, by rw [← o1]; exact z2⟩
      -- closing a turn: from the state behind the element
      have fin : ∀ {G5 H4 : Hp} {e3 : Ev} {ws2 : List V} {ac2 : List PyData}, Rl K m E G0 G5 e3 σ' H4 → Stp σ' G' H' e2 G5 H4 e3 → DpAll K G5 ws2 ac2 → lcGo γ tst fe vs (ds.drop (i + 1)) (wipeE e3 vs) ac2 = some (acc, eF) →
          W (i + 1) (ds.length - (i + 1)) (upd H4 D (.lst ws2)) := by
        intro G5 H4 e3 ws2 ac2 R5 S5 d5 lc5
        have g5 : G5 D = none := S5.nw D gD' (by rw [hD']; simp)
        have o5 : ¬ Own σ' e3 D := fun z => noD (own2 D ((own_kd S5.kd).mp z))
        have R6 := (R5.updD (ws := ws2) g5 eD o5).wipe vs
        rw [wsame] at R6
        refine ⟨G5, wipeE e3 vs, ac2, ws2, rfl, hlt, R6, ⟨S1.gg.trans (S'.gg.trans S5.gg), fun a h1 h2 => ?_, fun a o h1 h2 => ?_, fun j => ?_, fun a h1 => ?_⟩, g5, upd_same, d5, lc5⟩
        · exact S5.nw a (S'.nw a (S1.nw a h1 h2) (S1.th a h2)) (S'.th a (S1.th a h2))
        · have z : a ≠ D := ne_of_none h1 hD
          rw [upd_ne z]
          have n1 : ¬ Own (L2.wipe σ vs) e a := fun y => h2 ((own_kd S1.kd).mp y)
          exact S5.hh a o (S'.hh a o (S1.hh a o h1 h2) n1) fun y => n1 (own2 a y)
        · by_cases hj : j ∈ vs
          · have b1 : ∀ {e : Ev}, isAc (wipeE e vs)[j]? = false := fun {e} => by
              cases z : (wipeE e vs)[j]? with
              | none => rfl
              | some s =>
                cases s with
                | none => rfl
                | some s => exact absurd hj (wipeE_in z)
            rw [b1, b1]
          · rw [wipeE_out hj, S5.kd j, (out j fun z => hj (hS j z)).2]
            exact S1.kd j
        · by_cases z : a = D
          · rw [z, upd_same]
            simp
          · rw [upd_ne z]
            exact S5.th a (S'.th a (S1.th a h1))
      cases h2 : tst e2 with
      | none => simp only [h2] at lc; cases lc
      | some z =>
        obtain ⟨b, e3⟩ := z
        cases b with
        | false =>
          simp only [h2] at lc
          refine ⟨m, E, G0, G', e2, false, e3, R2, h2, fun G3 H3 R3 S3 => ?_⟩
          show (if false = true then _ else _)
          (rw [if_neg Bool.false_ne_true])
          have w3 : H3 D = some (.lst ws) := S3.hh D _ hD' fun z => noD (own2 D z)
          have eu : upd H3 D (.lst ws) = H3 := by
            funext b
            by_cases z : b = D
            · rw [z, upd_same, w3]
            · rw [upd_ne z]
          have z := fin R3 S3 (dpAll_same (S'.gg.trans S3.gg) dv) lc
          rw [eu] at z
          exact z
        | true =>
          simp only [h2] at lc
          refine ⟨m, E, G0, G', e2, true, e3, R2, h2, fun G3 H3 R3 S3 => ?_⟩
          show (if (true = true) then _ else _)
          rw [if_pos rfl]
          cases h3 : fe e3 with
          | none => simp only [h3] at lc; cases lc
          | some z =>
            obtain ⟨r, e4⟩ := z
            simp only [h3] at lc
            refine ⟨m, E, G0, G3, e3, r, e4, R3, h3, fun v G4 H4 R4 S4 V4 N4 => ?_⟩
            obtain ⟨G5, R5, S5, s5, V5⟩ := R4.freeze (S3.trans S4) V4 (nw_back S3 v N4)
            cases h4 : imR (frzR r) with
            | none => simp only [h4] at lc; cases lc
            | some yd =>
              simp only [h4] at lc
              have er : frzR r = .im yd := by
                cases r with
                | im d =>
                  cases h4
                  rfl
                | ac ds =>
                  cases h4
                  rfl
                | br i => cases h4
              rw [er] at V5
              by_cases h5 : okLen (ac.length + 1) = true
              · rw [if_pos h5] at lc
                have w4 : H4 D = some (.lst ws) := S5.hh D _ hD' fun z => noD (own2 D z)
                have hl := okLen_ok h5
                refine ⟨ws, w4, by rw [dpAll_len dv]; omega, ?_⟩
                exact fin R5 S5 (dpAll_app (dpAll_same (S'.gg.trans S5.gg) dv) (.cons V5 .nil)) lc
              · rw [if_neg h5] at lc
                cases lc
  · have hi2 : i = ds.length := by omega
    subst hi2
    rw [List.drop_length] at lc
    simp only [lcGo, Option.some.injEq, Prod.mk.injEq] at lc
    obtain ⟨rfl, rfl⟩ := lc
    have hl : e.length = e1.length := by
      have z1 := R.len
      have z2 := R1.len
      rw [wipe_length] at z1
      omega
    have vsE : ∀ i ∈ vs, isAc e[i]? = false := fun i hi => by
      rw [S1.kd i]
      cases z : (wipeE e1 vs)[i]? with
      | none => rfl
      | some s =>
        cases s with
        | none => rfl
        | some s => exact absurd hi (wipeE_in z)
    have kd : ∀ j : Nat, isAc (restE e1 e vs)[j]? = isAc e1[j]? := fun j => by
      by_cases hj : j ∈ vs
      · rw [restE_in hl hj]
      · rw [restE_out hj, S1.kd j, wipeE_out hj]
    have get : ∀ {j : Nat} {s : Sl}, (restE e1 e vs)[j]? = some (some s) → (j ∈ vs ∧ e1[j]? = some (some s)) ∨ (j ∉ vs ∧ e[j]? = some (some s)) := fun {j s} z => by
      by_cases hj : j ∈ vs
      · rw [restE_in hl hj] at z
        exact .inl ⟨hj, z⟩
      · rw [restE_out hj] at z
        exact .inr ⟨hj, z⟩
    have ac1 : ∀ {j : Nat} {dj : List PyData}, (restE e1 e vs)[j]? = some (some (.ac dj)) → j ∉ vs ∧ e[j]? = some (some (.ac dj)) := fun {j dj} z => by
      rcases get z with ⟨h1, h2⟩ | z
      · have q1 := noAc_at hn h1
        rw [h2] at q1
        cases q1
      · exact z
    have RF : Rl K m E G0 G (restE e1 e vs) σ H := by
      refine ⟨R.gg, R.gh, R.eh, R.mh, R.nw, by rw [restE_len, hl]; exact R1.len, fun j d z => ?_, fun j dj z => ?_, fun j k dj dk p z1 z2 z3 z4 => ?_⟩
      · rcases get z with ⟨h1, h2⟩ | ⟨h1, h2⟩
        · obtain ⟨v, a1, a2⟩ := R1.im j d h2
          exact ⟨v, a1, dp_same S1.gg a2⟩
        · obtain ⟨v, a1, a2⟩ := R.im j d h2
          rw [wipe_out h1] at a1
          exact ⟨v, a1, a2⟩
      · obtain ⟨h1, h2⟩ := ac1 z
        obtain ⟨p, w, a1, a2⟩ := R.ac j dj h2
        rw [wipe_out h1] at a1
        exact ⟨p, w, a1, a2⟩
      · obtain ⟨h1, h2⟩ := ac1 z1
        obtain ⟨h3, h4⟩ := ac1 z2
        exact R.inj j k dj dk p h2 h4 (by rw [wipe_out h1]; exact z3) (by rw [wipe_out h3]; exact z4)
    refine .inl ⟨stop, P G H RF ⟨S1.gg, S1.nw, fun a o h1 h2 => S1.hh a o h1 fun z => h2 ((own_wipe hn).mp z), kd, S1.th⟩ ⟨D, ws, rfl, eD, hG, hH, dv, fun z => oD ((own_kd kd).mp z)⟩⟩
structure PTD (X : Cx) (ifs : List Expr) (f : Ft) : Prop where
  ex : PTs X ifs (ttOf X.K f)
def t_yes : Ft := fun e => some (true, e)
theorem ptd_nil : PTD X [] t_yes := ⟨⟨fun pins s σ H Q I h => by
  obtain ⟨m, E, G0, G, e, b, e', R, q, P⟩ := h
  cases q
  exact pts_nil.run pins s σ H Q I (P G H R Stp.refl)⟩⟩
theorem ptd_one {c : Expr} {f : Ft} (h : TD X c f) : PTD X [c] f := ⟨pts_one h.can⟩
variable {elt tg it : Expr} {ifs : List Expr} {scope : Scope} {own : List (Str × Nat)} {pos spos : Pos} {fi : Fi} {S : List Nat} {γ : PyData → Ev → Option Ev} {tst : Ft} {fe : Fe}
theorem x_lc_ok {wi : TI} (hS : ∀ i ∈ S, i ∈ own.map (·.2)) (k : ∀ (m : Option Addr) (E G0 G : Hp) (e : Ev) (σ : St) (H : Hp) (ds : List PyData) (e' : Ev) (Q : It → Hp → Prop),
      Rl X.K m E G0 G e σ H → fi e = some (ds, e') → (∀ J G' H', Rl X.K m E G0 G' e' σ H' → Stp σ G H e G' H' e' → WalkD X.K G' J ds → Q J H') → wi σ H Q)
    (m : Option Addr) (E G0 G : Hp) (e : Ev) (σ : St) (H : Hp) (r : Rs) (e' : Ev) (Q : VK) (R : Rl X.K m E G0 G e σ H) (q : x_lc fi γ tst fe (own.map (·.2)) e = some (r, e')) (P : Po X.K m E G0 σ G H e r e' Q) :
    tLc wi (tgOf X.K S γ) (ttOf X.K tst) (teOf X.K fe) (own.map (·.2)) σ H Q := by
  unfold x_lc at q
  cases h1 : fi e with
  | none => simp only [h1] at q; cases q
  | some z =>
    obtain ⟨ds, e1⟩ := z
    simp only [h1] at q
    by_cases h2 : noAc e1 (own.map (·.2)) = true
    · rw [if_pos h2] at q
      cases h3 : lcGo γ tst fe (own.map (·.2)) ds (wipeE e1 (own.map (·.2))) [] with
      | none => simp only [h3] at q; cases q
      | some z =>
        obtain ⟨acc, e2⟩ := z
        simp only [h3, Option.some.injEq, Prod.mk.injEq] at q
        obtain ⟨rfl, rfl⟩ := q
        refine k m E G0 G e σ H ds e1 _ R h1 fun J G1 H1 R1 S1 W1 D hD => ?_
        exact lc_ok R1 W1 hS h2 h3 hD fun G2 H2 R2 S2 V2 => P _ G2 H2 R2 (S1.trans S2) V2 (nw_back S1 _ fun p z => by
          cases z
          exact hD)
    · rw [if_neg h2] at q
      cases q
/-- [elt for tg in it if ..] -/
theorem ed_lc (hc : X.calm = true) (hN : X.N.Nodup) (hi : ID X tg it fi) (ok : blkC X.N X.env.scope scope own = true) (hS : ∀ i ∈ S, i ∈ own.map (·.2))
    (hg : ∀ (s : Shared) (H : Hp) (C : Addr) (cl : List (Str × Addr)) (fp : List Addr), GD (X.blk s H scope (compEnvC scope cl C X.env) fp) tg S γ) (ht : ∀ (s : Shared) (H : Hp) (C : Addr) (cl : List (Str × Addr)) (fp : List Addr), PTD (X.blk s H scope (compEnvC scope cl C X.env) fp) ifs tst)
    (he : ∀ (s : Shared) (H : Hp) (C : Addr) (cl : List (Str × Addr)) (fp : List Addr), ED (X.blk s H scope (compEnvC scope cl C X.env) fp) elt fe) (hs : ∀ x, foldedSetIterable it X.env x = pure x := by intro _; rfl) :
    ED X (.ListComp elt [⟨tg, it, ifs, 0⟩] scope pos) (x_lc fi γ tst fe (own.map (·.2))) := by
  obtain ⟨wi, pi, k⟩ := hi
  exact ⟨_, pe_lc hc hN pi (blkOk_by ok) (fun s H C cl fp => (hg s H C cl fp).can) (fun s H C cl fp => (ht s H C cl fp).ex) (fun s H C cl fp => (he s H C cl fp).can) hs, x_lc_ok hS k⟩
end
end DL
namespace DL
open L2 PySem PySem.Spec PyProof.Rows

/-! ### statements -/
/-- the first slot stays the caller's list, if there is one -/
structure Rz (K : PySem.W.Frag) (m : Option Addr) (E G0 G : Hp) (e : Ev) (σ : St) (H : Hp) : Prop where
  r : Rl K m E G0 G e σ H
  z : ∀ p, m = some p → isAc e[0]? = true ∧ σ[0]? = some (some (.ref p))
def PoS (K : PySem.W.Frag) (m : Option Addr) (E G0 G : Hp) (D : Ends) : Fl → Prop
  | .nx e => ∀ G' σ H, Same G G' → Rz K m E G0 G' e σ H → D.nx σ H
  | .bk e => ∀ G' σ H, Same G G' → Rz K m E G0 G' e σ H → D.bk σ H
  | .ct e => ∀ G' σ H, Same G G' → Rz K m E G0 G' e σ H → D.ct σ H
  | .rt r e => ∀ v G' σ H, Same G G' → Rz K m E G0 G' e σ H → Vr K E G' H σ e v r → D.rt v H
structure SD (X : Cx) (st : Stmt) (f : Fs) : Prop where
  ex : ∃ t : TS, PS X st t ∧ ∀ (m : Option Addr) (E G0 G : Hp) (e : Ev) (σ : St) (H : Hp) (fl : Fl) (D : Ends),
    Rz X.K m E G0 G e σ H → f e = some fl → PoS X.K m E G0 G D fl → t D σ H
structure SsD (X : Cx) (sts : List Stmt) (f : Fs) : Prop where
  ex : ∃ t : TS, PSs X sts t ∧ ∀ (m : Option Addr) (E G0 G : Hp) (e : Ev) (σ : St) (H : Hp) (fl : Fl) (D : Ends),
    Rz X.K m E G0 G e σ H → f e = some fl → PoS X.K m E G0 G D fl → t D σ H
section
variable {K : PySem.W.Frag} {m : Option Addr} {E G0 G G' H H' : Hp} {e e' : Ev} {σ σ' : St} {v : V} {d : PyData} {D D' : Ends} {fl : Fl} {i : Nat}
theorem PoS.aft (P : PoS K m E G0 G D fl) (s : Same G G') : PoS K m E G0 G' D fl := by
  cases fl with
  | nx e => exact fun G2 σ H s2 R => P G2 σ H (s.trans s2) R
  | bk e => exact fun G2 σ H s2 R => P G2 σ H (s.trans s2) R
  | ct e => exact fun G2 σ H s2 R => P G2 σ H (s.trans s2) R
  | rt r e => exact fun v G2 σ H s2 R V => P v G2 σ H (s.trans s2) R V
theorem Rz.exp (R : Rz K m E G0 G e σ H) (R' : Rl K m E G0 G' e' σ H') (S : Stp σ G H e G' H' e') : Rz K m E G0 G' e' σ H' :=
  ⟨R', fun p z => ⟨by rw [S.kd 0]; exact (R.z p z).1, (R.z p z).2⟩⟩
def okS (S : List Nat) (e : Ev) : Bool := !(S.contains 0 && isAc e[0]?)
theorem okS_no (h : okS S e = true) (q : isAc e[0]? = true) : 0 ∉ S := by
  intro z
  unfold okS at h
  rw [q, List.contains_iff_mem.mpr z] at h
  cases h
theorem Rz.setI (R : Rz K m E G0 G e σ H) (h : Dp K G v d) (ok : okS [i] e = true) : Rz K m E G0 G (e.set i (some (.im d))) (σ.set i (some v)) H :=
  ⟨R.r.setI i h, fun p z => by
    obtain ⟨z1, z2⟩ := R.z p z
    have n := okS_no ok z1
    have n : i ≠ 0 := fun q => n (by rw [q]; exact List.mem_singleton.mpr rfl)
    rw [List.getElem?_set_ne n, List.getElem?_set_ne n]
    exact ⟨z1, z2⟩⟩
theorem Rz.setA {ds : List PyData} (R : Rz K m E G0 G e σ H) (h : Vr K E G H σ e v (.ac ds)) (ok : okS [i] e = true) : Rz K m E G0 G (e.set i (some (.ac ds))) (σ.set i (some v)) H :=
  ⟨R.r.setA i h, fun p z => by
    obtain ⟨z1, z2⟩ := R.z p z
    have n := okS_no ok z1
    have n : i ≠ 0 := fun q => n (by rw [q]; exact List.mem_singleton.mpr rfl)
    rw [List.getElem?_set_ne n, List.getElem?_set_ne n]
    exact ⟨z1, z2⟩⟩
end
def s_seq (f g : Fs) : Fs := fun e => match f e with
  | some (.nx e1) => g e1
  | some x => some x
  | none => none
def s_nx : Fs := fun e => some (.nx e)
def s_no : Fs := fun _ => none
section
variable {X : Cx} {st : Stmt} {rest : List Stmt} {f g : Fs} {pos : Pos} {a : Expr} {fe : Fe}
theorem ssd_nil : SsD X [] s_nx := ⟨_, pss_nil, fun m E G0 G e σ H fl D R q P => by
  cases q
  exact P G σ H (Same.refl _) R⟩
theorem ssd_cons (h : SD X st f) (h2 : SsD X rest g) : SsD X (st :: rest) (s_seq f g) := by
  obtain ⟨t, p, k⟩ := h
  obtain ⟨t2, p2, k2⟩ := h2
  refine ⟨_, pss_cons p p2, fun m E G0 G e σ H fl D R q P => ?_⟩
  unfold s_seq at q
  split at q
  · rename_i e1 h1
    refine k m E G0 G e σ H _ _ R h1 ?_
    exact fun G' σ' H' s R' => k2 m E G0 G' e1 σ' H' fl D R' q (P.aft s)
  · rename_i x h2 h1
    cases q
    refine k m E G0 G e σ H _ _ R h1 ?_
    cases fl with
    | nx e1 => exact (h2 e1 rfl).elim
    | bk e => exact P
    | ct e => exact P
    | rt r e => exact P
  · cases q
theorem ssd_one (h : SD X st f) : SsD X [st] f := by
  obtain ⟨t, p, k⟩ := h
  exact ⟨_, pss_one p, k⟩
theorem sd_pass : SD X (.Pass pos) s_nx := ⟨_, ps_pass, fun m E G0 G e σ H fl D R q P => by
  cases q
  exact P G σ H (Same.refl _) R⟩
def s_bk : Fs := fun e => some (.bk e)
def s_ct : Fs := fun e => some (.ct e)
theorem sd_break : SD X (.Break pos) s_bk := ⟨_, ps_break, fun m E G0 G e σ H fl D R q P => by
  cases q
  exact P G σ H (Same.refl _) R⟩
theorem sd_continue : SD X (.Continue pos) s_ct := ⟨_, ps_continue, fun m E G0 G e σ H fl D R q P => by
  cases q
  exact P G σ H (Same.refl _) R⟩
theorem sd_never : SD X st s_no := ⟨_, ps_never, fun m E G0 G e σ H fl D R q P => by cases q⟩
theorem sd_doc {x j p} : SD X (.Expr (.Constant (.str x) j p) pos) s_nx := ⟨_, ps_doc, fun m E G0 G e σ H fl D R q P => by
  cases q
  exact P G σ H (Same.refl _) R⟩
def s_drop (f : Fe) : Fs := fun e => match f e with
  | some (_, e1) => some (.nx e1)
  | none => none
theorem sd_expr (h : ED X a fe) (hs : swapsWith a none pos.line X.env = pure false := by rfl) : SD X (.Expr a pos) (s_drop fe) := by
  obtain ⟨t, p, k⟩ := h
  refine ⟨_, ps_expr p hs, fun m E G0 G e σ H fl D R q P => ?_⟩
  unfold s_drop at q
  split at q
  · rename_i r e1 h1
    cases q
    exact k m E G0 G e σ H _ _ _ R.r h1 fun v G' H' R' S' V N => P G' σ H' S'.gg (R.exp R' S')
  · cases q
def s_ret (f : Fe) : Fs := fun e => match f e with
  | some (r, e1) => some (.rt r e1)
  | none => none
theorem sd_ret (h : ED X a fe) : SD X (.Return (some a) pos) (s_ret fe) := by
  obtain ⟨t, p, k⟩ := h
  refine ⟨_, ps_ret p, fun m E G0 G e σ H fl D R q P => ?_⟩
  unfold s_ret at q
  split at q
  · rename_i r e1 h1
    cases q
    exact k m E G0 G e σ H _ _ _ R.r h1 fun v G' H' R' S' V N => P v G' σ H' S'.gg (R.exp R' S') V
  · cases q
theorem sd_retN : SD X (.Return none pos) (fun e => some (.rt (.im .none) e)) := ⟨_, ps_retN, fun m E G0 G e σ H fl D R q P => by
  cases q
  exact P .non G σ H (Same.refl _) R .non⟩
def s_if (c : Ft) (f g : Fs) : Fs := fun e => match c e with
  | some (true, e1) => f e1
  | some (false, e1) => g e1
  | none => none
theorem sd_if {tst : Expr} {A B : List Stmt} {c : Ft} (hc : TD X tst c) (ha : SsD X A f) (hb : SsD X B g) : SD X (.If tst A B pos) (s_if c f g) := by
  obtain ⟨t, p, k⟩ := hc
  obtain ⟨t1, p1, k1⟩ := ha
  obtain ⟨t2, p2, k2⟩ := hb
  refine ⟨_, ps_if p p1 p2, fun m E G0 G e σ H fl D R q P => ?_⟩
  unfold s_if at q
  split at q
  · rename_i e1 h1
    refine k m E G0 G e σ H true e1 _ R.r h1 fun G' H' R' S' => ?_
    rw [if_pos rfl]
    exact k1 m E G0 G' e1 σ H' fl D (R.exp R' S') q (P.aft S'.gg)
  · rename_i e1 h1
    refine k m E G0 G e σ H false e1 _ R.r h1 fun G' H' R' S' => ?_
    (rw [if_neg Bool.false_ne_true])
    exact k2 m E G0 G' e1 σ H' fl D (R.exp R' S') q (P.aft S'.gg)
  · cases q
/-! ### name = value: a list of one's own, or frozen -/
def putA (i : Nat) (e : Ev) : Rs → Option Ev
  | .im d => some (e.set i (some (.im d)))
  | .ac ds => some (e.set i (some (.ac ds)))
  | .br _ => none
def s_set (i : Nat) (f : Fe) : Fs := fun e => match f e with
  | some (r, e1) => if okS [i] e1 = true then (match putA i e1 r with
    | some e2 => some (.nx e2)
    | none => none) else none
  | none => none
def s_setF (i : Nat) (f : Fe) : Fs := s_set i fun e => match f e with
  | some (r, e1) => some (frzR r, e1)
  | none => none
theorem set_ok {i : Nat} {te : TE} (k : ∀ (m : Option Addr) (E G0 G : Hp) (e : Ev) (σ : St) (H : Hp) (r : Rs) (e' : Ev) (Q : VK), Rl X.K m E G0 G e σ H → fe e = some (r, e') → Po X.K m E G0 σ G H e r e' Q → te σ H Q)
    (m : Option Addr) (E G0 G : Hp) (e : Ev) (σ : St) (H : Hp) (fl : Fl) (D : Ends) (R : Rz X.K m E G0 G e σ H) (q : s_set i fe e = some fl) (P : PoS X.K m E G0 G D fl) : tAsg te (gName i) D σ H := by
  unfold s_set at q
  split at q
  · rename_i r e1 h1
    by_cases ok : okS [i] e1 = true
    · rw [if_pos ok] at q
      refine k m E G0 G e σ H _ _ _ R.r h1 fun v G' H' R' S' V N => ?_
      have Rx := R.exp R' S'
      cases r with
      | im d =>
        cases q
        exact P G' _ H' S'.gg (Rx.setI V ok)
      | ac ds =>
        cases q
        exact P G' _ H' S'.gg (Rx.setA V ok)
      | br j => cases q
    · rw [if_neg ok] at q
      cases q
  · cases q
theorem frz_k {te : TE} (k : ∀ (m : Option Addr) (E G0 G : Hp) (e : Ev) (σ : St) (H : Hp) (r : Rs) (e' : Ev) (Q : VK), Rl X.K m E G0 G e σ H → fe e = some (r, e') → Po X.K m E G0 σ G H e r e' Q → te σ H Q)
    (m : Option Addr) (E G0 G : Hp) (e : Ev) (σ : St) (H : Hp) (r : Rs) (e' : Ev) (Q : VK) (R : Rl X.K m E G0 G e σ H) (q : (match fe e with
      | some (r, e1) => some (frzR r, e1)
      | none => none) = some (r, e')) (P : Po X.K m E G0 σ G H e r e' Q) : te σ H Q := by
  split at q
  · rename_i r1 e1 h1
    cases q
    refine k m E G0 G e σ H _ _ _ R h1 fun v G' H' R' S' V N => ?_
    obtain ⟨G2, R2, S2, s2, V2⟩ := R'.freeze S' V N
    exact P v G2 H' R2 S2 V2 (by cases r1 <;> exact True.intro)
  · cases q
section
variable {i : Nat} {x : Str} {pos' : Pos}
theorem sd_set (i : Nat) (hN : X.N.Nodup) (h : ED X a fe) (hi : X.N[i]? = some x := by rfl) (hx : Loc X.env.scope x := by first | exact .inl rfl | exact .inr rfl) (hs : swapsWith a (some (.Name x pos')) pos.line X.env = pure false := by rfl) (hf : X.fn x = true ∨ X.env.scope.names.lookup x = some .local := by first | exact .inl rfl | exact .inr rfl | assumption) :
    SD X (.Assign [.Name x pos'] a pos) (s_set i fe) := by
  obtain ⟨t, p, k⟩ := h
  exact ⟨_, ps_set hN hi hx p hs hf, set_ok k⟩
theorem sd_setF (i : Nat) (hN : X.N.Nodup) (h : ED X a fe) (hi : X.N[i]? = some x := by rfl) (hx : Loc X.env.scope x := by first | exact .inl rfl | exact .inr rfl) (hs : swapsWith a (some (.Name x pos')) pos.line X.env = pure false := by rfl) (hf : X.fn x = true ∨ X.env.scope.names.lookup x = some .local := by first | exact .inl rfl | exact .inr rfl | assumption) :
    SD X (.Assign [.Name x pos'] a pos) (s_setF i fe) := by
  obtain ⟨t, p, k⟩ := h
  exact ⟨_, ps_set hN hi hx p hs hf, set_ok (frz_k k)⟩
end
/-! name = [.. for ..], written on one line -/
section
variable {elt tg it : Expr} {ifs : List Expr} {scope : Scope} {own : List (Str × Nat)} {lpos spos : Pos} {fi : Fi} {S : List Nat} {γ : PyData → Ev → Option Ev} {tst : Ft} {fe : Fe} {x : Str} {pos' : Pos}
theorem sd_setLc (i : Nat) (hc : X.calm = true) (hN : X.N.Nodup) (hi : ID X tg it fi) (ok : blkC X.N X.env.scope scope own = true) (hS : ∀ i ∈ S, i ∈ own.map (·.2))
    (hg : ∀ (s : Shared) (H : Hp) (C : Addr) (cl : List (Str × Addr)) (fp : List Addr), GD (X.blk s H scope (compEnvC scope cl C X.env) fp) tg S γ) (ht : ∀ (s : Shared) (H : Hp) (C : Addr) (cl : List (Str × Addr)) (fp : List Addr), PTD (X.blk s H scope (compEnvC scope cl C X.env) fp) ifs tst)
    (he : ∀ (s : Shared) (H : Hp) (C : Addr) (cl : List (Str × Addr)) (fp : List Addr), ED (X.blk s H scope (compEnvC scope cl C X.env) fp) elt fe) (hs : ∀ x, foldedSetIterable it X.env x = pure x := by intro _; rfl)
    (hy : X.N[i]? = some x := by rfl) (hyl : X.env.scope.names.lookup x = some .local := by rfl) (hsw : swapsWith (.ListComp elt [⟨tg, it, ifs, 0⟩] scope lpos) (some (.Name x pos')) spos.line X.env = pure true := by rfl) :
    SD X (.Assign [.Name x pos'] (.ListComp elt [⟨tg, it, ifs, 0⟩] scope lpos) spos) (s_set i (x_lc fi γ tst fe (own.map (·.2)))) := by
  obtain ⟨wi, pi, k⟩ := hi
  exact ⟨_, ps_setLc hc hN hy hyl hsw pi (blkOk_by ok) (fun s H C cl fp => (hg s H C cl fp).can) (fun s H C cl fp => (ht s H C cl fp).ex) (fun s H C cl fp => (he s H C cl fp).can) hs, set_ok (x_lc_ok hS k)⟩
theorem sd_setLcF (i : Nat) (hc : X.calm = true) (hN : X.N.Nodup) (hi : ID X tg it fi) (ok : blkC X.N X.env.scope scope own = true) (hS : ∀ i ∈ S, i ∈ own.map (·.2))
    (hg : ∀ (s : Shared) (H : Hp) (C : Addr) (cl : List (Str × Addr)) (fp : List Addr), GD (X.blk s H scope (compEnvC scope cl C X.env) fp) tg S γ) (ht : ∀ (s : Shared) (H : Hp) (C : Addr) (cl : List (Str × Addr)) (fp : List Addr), PTD (X.blk s H scope (compEnvC scope cl C X.env) fp) ifs tst)
    (he : ∀ (s : Shared) (H : Hp) (C : Addr) (cl : List (Str × Addr)) (fp : List Addr), ED (X.blk s H scope (compEnvC scope cl C X.env) fp) elt fe) (hs : ∀ x, foldedSetIterable it X.env x = pure x := by intro _; rfl)
    (hy : X.N[i]? = some x := by rfl) (hyl : X.env.scope.names.lookup x = some .local := by rfl) (hsw : swapsWith (.ListComp elt [⟨tg, it, ifs, 0⟩] scope lpos) (some (.Name x pos')) spos.line X.env = pure true := by rfl) :
    SD X (.Assign [.Name x pos'] (.ListComp elt [⟨tg, it, ifs, 0⟩] scope lpos) spos) (s_setF i (x_lc fi γ tst fe (own.map (·.2)))) := by
  obtain ⟨wi, pi, k⟩ := hi
  exact ⟨_, ps_setLc hc hN hy hyl hsw pi (blkOk_by ok) (fun s H C cl fp => (hg s H C cl fp).can) (fun s H C cl fp => (ht s H C cl fp).ex) (fun s H C cl fp => (he s H C cl fp).can) hs, set_ok (frz_k (x_lc_ok hS k))⟩
end
/-! ### for -/
def forGo (γ : PyData → Ev → Option Ev) (S : List Nat) (fb : Fs) : List PyData → Ev → Option Fl
  | [], e => some (.nx e)
  | d :: ds, e => if okS S e = true then (match γ d e with
    | some e2 => (match fb e2 with
      | some (.nx e3) => forGo γ S fb ds e3
      | some (.ct e3) => forGo γ S fb ds e3
      | some (.bk e3) => some (.nx e3)
      | some (.rt r e3) => some (.rt r e3)
      | none => none)
    | none => none) else none
def s_for (fi : Fi) (γ : PyData → Ev → Option Ev) (S : List Nat) (fb : Fs) : Fs := fun e => match fi e with
  | some (ds, e1) => forGo γ S fb ds e1
  | none => none
theorem sd_for {tg it : Expr} {body : List Stmt} {fi : Fi} {S : List Nat} {γ : PyData → Ev → Option Ev} {fb : Fs} (hc : X.calm = true) (hp : PassesOwn (model X.prog X.w) X.A X.env X.xe) (hi : ID X tg it fi) (hg : GD X tg S γ) (hb : SsD X body fb)
    (hs : ∀ x, foldedSetIterable it X.env x = pure x := by intro _; rfl) : SD X (.For tg it body [] pos) (s_for fi γ S fb) := by
  obtain ⟨wi, pi, ki⟩ := hi
  obtain ⟨g, pg, kg⟩ := hg
  obtain ⟨tb, pb, kb⟩ := hb
  refine ⟨_, ps_for hp hc pi pg pb hs, fun m E G0 G e σ H fl D R q P => ?_⟩
  unfold s_for at q
  cases h1 : fi e with
  | none => simp only [h1] at q; cases q
  | some z =>
    obtain ⟨ds, e1⟩ := z
    simp only [h1] at q
    refine ki m E G0 G e σ H ds e1 _ R.r h1 fun J G1 H1 R1 S1 W1 => ?_
    let W : Nat → Nat → St → Hp → Prop := fun i mm σ H => ∃ G2 e2, mm = ds.length - i ∧ i ≤ ds.length ∧ Rz X.K m E G0 G2 e2 σ H ∧ Same G1 G2 ∧ forGo γ S fb (ds.drop i) e2 = some fl
    refine ⟨W, ⟨ds.length, G1, e1, by simp, Nat.zero_le _, R.exp R1 S1, Same.refl _, by simpa using q⟩, ?_⟩
    rintro i mm σ2 H2 ⟨G2, e2, rfl, hi, R2, s2, lc⟩
    obtain ⟨wk, stop⟩ := W1 G2 H2 s2 R2.r.gh
    by_cases hlt : i < ds.length
    · have hd : ds.drop i = ds[i] :: ds.drop (i + 1) := by rw [List.drop_eq_getElem_cons hlt]
      have hget : ds[i]? = some ds[i] := List.getElem?_eq_getElem hlt
      rw [hd] at lc
      generalize ds[i] = d at lc hget hd
      obtain ⟨go, yl⟩ := wk i d hget
      refine .inr ⟨go, W (i + 1) (ds.length - (i + 1)), fun σ' H' h => ⟨_, by omega, h⟩, fun x H' y => ?_⟩
      have hY : ∃ G', Rz X.K m E G0 G' e2 σ2 H' ∧ Same G2 G' ∧ Dp X.K G' x d := by
        rcases yl x H' y with ⟨rfl, h⟩ | ⟨T, us, es, rfl, nT, rfl, rfl, h⟩
        · exact ⟨G2, R2, Same.refl _, h⟩
        · obtain ⟨R', S', D'⟩ := R2.r.newT nT h
          exact ⟨_, R2.exp R' S', S'.gg, D'⟩
      obtain ⟨G', R', s', dx⟩ := hY
      simp only [forGo] at lc
      by_cases ok : okS S e2 = true
      · rw [if_pos ok] at lc
        cases h2 : γ d e2 with
        | none => simp only [h2] at lc; cases lc
        | some e3 =>
          simp only [h2] at lc
          refine kg m E G0 G' e2 σ2 H' x d e3 _ R'.r dx h2 fun σ3 R3 out sl el ac1 => ?_
          have R3' : Rz X.K m E G0 G' e3 σ3 H' := ⟨R3, fun p z => by
            obtain ⟨z1, z2⟩ := R'.z p z
            obtain ⟨o1, o2⟩ := out 0 (okS_no ok z1)
            rw [o1, o2]
            exact ⟨z1, z2⟩⟩
          cases h3 : fb e3 with
          | none => simp only [h3] at lc; cases lc
          | some x3 =>
            refine kb m E G0 G' e3 σ3 H' x3 _ R3' h3 ?_
            cases x3 with
            | nx e4 =>
              simp only [h3] at lc
              exact fun G4 σ4 H4 s4 R4 => ⟨G4, e4, rfl, hlt, R4, s2.trans (s'.trans s4), lc⟩
            | ct e4 =>
              simp only [h3] at lc
              exact fun G4 σ4 H4 s4 R4 => ⟨G4, e4, rfl, hlt, R4, s2.trans (s'.trans s4), lc⟩
            | bk e4 =>
              simp only [h3, Option.some.injEq] at lc
              subst lc
              exact fun G4 σ4 H4 s4 R4 => P G4 σ4 H4 (S1.gg.trans (s2.trans (s'.trans s4))) R4
            | rt r e4 =>
              simp only [h3, Option.some.injEq] at lc
              subst lc
              exact fun v G4 σ4 H4 s4 R4 V => P v G4 σ4 H4 (S1.gg.trans (s2.trans (s'.trans s4))) R4 V
      · rw [if_neg ok] at lc
        cases lc
    · have hi2 : i = ds.length := by omega
      subst hi2
      rw [List.drop_length] at lc
      cases lc
      exact .inl ⟨stop, P G2 σ2 H2 (S1.gg.trans s2) R2⟩
/-! ### while -/
def whGo (tst : Ft) (fb : Fs) : Nat → Ev → Option Fl
  | 0, _ => none
  | n + 1, e => match tst e with
    | some (false, e1) => some (.nx e1)
    | some (true, e1) => (match fb e1 with
      | some (.nx e3) => whGo tst fb n e3
      | some (.ct e3) => whGo tst fb n e3
      | some (.bk e3) => some (.nx e3)
      | some (.rt r e3) => some (.rt r e3)
      | none => none)
    | none => none
def s_while (n : Ev → Nat) (tst : Ft) (fb : Fs) : Fs := fun e => whGo tst fb (n e) e
theorem sd_while (n : Ev → Nat) {c : Expr} {body : List Stmt} {tst : Ft} {fb : Fs} (hp : PassesOwn (model X.prog X.w) X.A X.env X.xe) (hc : TD X c tst) (hb : SsD X body fb) : SD X (.While c body [] pos) (s_while n tst fb) := by
  obtain ⟨tc, pc, kc⟩ := hc
  obtain ⟨tb, pb, kb⟩ := hb
  refine ⟨_, ps_while hp pc pb, fun m E G0 G e σ H fl D R q P => ?_⟩
  let W : Nat → St → Hp → Prop := fun mm σ H => ∃ G2 e2, Rz X.K m E G0 G2 e2 σ H ∧ Same G G2 ∧ whGo tst fb mm e2 = some fl
  refine ⟨W, ⟨n e, G, e, R, Same.refl _, q⟩, ?_⟩
  rintro mm σ2 H2 ⟨G2, e2, R2, s2, lc⟩
  cases mm with
  | zero => cases lc
  | succ mm =>
    simp only [whGo] at lc
    cases h1 : tst e2 with
    | none => simp only [h1] at lc; cases lc
    | some z =>
      obtain ⟨b, e3⟩ := z
      refine kc m E G0 G2 e2 σ2 H2 b e3 _ R2.r h1 fun G3 H3 R3 S3 => ?_
      have Rx := R2.exp R3 S3
      cases b with
      | false =>
        simp only [h1, Option.some.injEq] at lc
        subst lc
        (rw [if_neg Bool.false_ne_true])
        exact P G3 σ2 H3 (s2.trans S3.gg) Rx
      | true =>
        simp only [h1] at lc
        rw [if_pos rfl]
        refine ⟨W mm, fun σ' H' h => ⟨mm, Nat.lt_succ_self _, h⟩, ?_⟩
        cases h3 : fb e3 with
        | none => simp only [h3] at lc; cases lc
        | some x3 =>
          refine kb m E G0 G3 e3 σ2 H3 x3 _ Rx h3 ?_
          cases x3 with
          | nx e4 =>
            simp only [h3] at lc
            exact fun G4 σ4 H4 s4 R4 => ⟨G4, e4, R4, s2.trans (S3.gg.trans s4), lc⟩
          | ct e4 =>
            simp only [h3] at lc
            exact fun G4 σ4 H4 s4 R4 => ⟨G4, e4, R4, s2.trans (S3.gg.trans s4), lc⟩
          | bk e4 =>
            simp only [h3, Option.some.injEq] at lc
            subst lc
            exact fun G4 σ4 H4 s4 R4 => P G4 σ4 H4 (s2.trans (S3.gg.trans s4)) R4
          | rt r e4 =>
            simp only [h3, Option.some.injEq] at lc
            subst lc
            exact fun v G4 σ4 H4 s4 R4 V => P v G4 σ4 H4 (s2.trans (S3.gg.trans s4)) R4 V
/-! ### a list of one's own is left as it is from here on -/
def fzE (j : Nat) (e : Ev) : Ev := match e[j]? with
  | some (some (.ac ds)) => e.set j (some (.im (.list ds)))
  | _ => e
theorem Rz.fz {K : PySem.W.Frag} {m : Option Addr} {E G0 G H : Hp} {e : Ev} {σ : St} {j : Nat} (R : Rz K m E G0 G e σ H) (hj : j ≠ 0) : ∃ G', Same G G' ∧ Rz K m E G0 G' (fzE j e) σ H := by
  unfold fzE
  split
  · rename_i ds h
    obtain ⟨p, ws, h1, h2, h3, h4, h5⟩ := R.r.ac j ds h
    have hE : E p = none := by
      rcases h5 with h5 | h5
      · exact h5
      · exact absurd h5.2 hj
    have s1 : Same G (upd G p (.lst ws)) := same_new h2
    have hl : j < e.length := (List.getElem?_eq_some_iff.mp h).1
    refine ⟨upd G p (.lst ws), s1, ⟨⟨R.r.gg.trans s1, fun b o q => ?_, R.r.eh, R.r.mh, fun b b1 b2 => ?_, by rw [List.length_set]; exact R.r.len, fun i d q => ?_, fun i di q => ?_, fun i k di dk p' q1 q2 q3 q4 => ?_⟩, fun p' z => ?_⟩⟩
    · by_cases z : b = p
      · rw [z, upd_same] at q
        rw [z, h3]
        exact q
      · rw [upd_ne z] at q
        exact R.r.gh b o q
    · have z : b ≠ p := fun z => b2 (by rw [z]; exact hE)
      rw [upd_ne z]
      exact R.r.nw b b1 b2
    · rw [set_get] at q
      by_cases z : j = i ∧ i < e.length
      · rw [if_pos z] at q
        cases q
        rw [← z.1]
        exact ⟨_, h1, .lst (.inl (.inl upd_same)) (dpAll_same s1 h4)⟩
      · rw [if_neg z] at q
        obtain ⟨v, a1, a2⟩ := R.r.im i d q
        exact ⟨v, a1, dp_same s1 a2⟩
    · rw [set_get] at q
      by_cases z : j = i ∧ i < e.length
      · rw [if_pos z] at q
        cases q
      · rw [if_neg z] at q
        obtain ⟨p', ws', a1, a2, a3, a4, a5⟩ := R.r.ac i di q
        have n : p' ≠ p := fun y => by
          rw [y] at a1
          have := R.r.inj j i ds di p h q h1 a1
          exact z ⟨this, by rw [← this]; exact hl⟩
        exact ⟨p', ws', a1, by rw [upd_ne n]; exact a2, a3, dpAll_same s1 a4, a5⟩
    · rw [set_get] at q1 q2
      by_cases z : j = i ∧ i < e.length
      · rw [if_pos z] at q1
        cases q1
      · rw [if_neg z] at q1
        by_cases z : j = k ∧ k < e.length
        · rw [if_pos z] at q2
          cases q2
        · rw [if_neg z] at q2
          exact R.r.inj i k di dk p' q1 q2 q3 q4
    · obtain ⟨z1, z2⟩ := R.z p' z
      rw [List.getElem?_set_ne hj]
      exact ⟨z1, z2⟩
  · exact ⟨G, Same.refl _, R⟩
def s_fz (j : Nat) (f : Fs) : Fs := fun e => f (fzE j e)
theorem SD.fz (j : Nat) (h : SD X st f) (hj : j ≠ 0 := by decide) : SD X st (s_fz j f) := by
  obtain ⟨t, p, k⟩ := h
  refine ⟨_, p, fun m E G0 G e σ H fl D R q P => ?_⟩
  obtain ⟨G', s, R'⟩ := R.fz hj
  exact k m E G0 G' _ σ H fl D R' q (P.aft s)
end
end DL
namespace DL
open L2 PySem PySem.Spec PyProof.Rows

/-! ### a list of one's own is written -/
section
variable {K : PySem.W.Frag} {m : Option Addr} {E G0 G H : Hp} {e : Ev} {σ : St} {i : Nat} {p : Addr} {d0 ds : List PyData} {ws : List V}
theorem Rl.put (R : Rl K m E G0 G e σ H) (h : e[i]? = some (some (.ac d0))) (hp : σ[i]? = some (some (.ref p))) (q : DpAll K G ws ds) :
    Rl K m E G0 G (e.set i (some (.ac ds))) σ (upd H p (.lst ws)) ∧ Stp σ G H e G (upd H p (.lst ws)) (e.set i (some (.ac ds))) := by
  obtain ⟨p', w0, h1, h2, h3, h4, h5⟩ := R.ac i d0 h
  rw [hp] at h1
  cases h1
  have hl : i < e.length := (List.getElem?_eq_some_iff.mp h).1
  refine ⟨⟨R.gg, fun b o z => ?_, fun b o z1 z2 => ?_, fun b z => ⟨(R.mh b z).1, ?_⟩, R.nw, by rw [List.length_set]; exact R.len, fun j d z => ?_, fun j dj z => ?_, fun j k dj dk p' q1 q2 q3 q4 => ?_⟩,
    Same.refl _, fun _ z _ => z, fun a o z1 z2 => ?_, fun j => ?_, fun a z => ?_⟩
  · rw [upd_ne (ne_of_none z h2)]
    exact R.gh b o z
  · have n : b ≠ p := fun y => by
      rcases h5 with h5 | h5
      · rw [y, h5] at z1
        cases z1
      · exact z2 (by rw [y]; exact h5.1)
    rw [upd_ne n]
    exact R.eh b o z1 z2
  · by_cases n : b = p
    · rw [n, upd_same]
      simp
    · rw [upd_ne n]
      exact (R.mh b z).2
  · rw [set_get] at z
    by_cases y : i = j ∧ j < e.length
    · rw [if_pos y] at z
      cases z
    · rw [if_neg y] at z
      exact R.im j d z
  · rw [set_get] at z
    by_cases y : i = j ∧ j < e.length
    · rw [if_pos y] at z
      cases z
      rw [← y.1]
      exact ⟨p, ws, hp, h2, upd_same, q, h5⟩
    · rw [if_neg y] at z
      obtain ⟨p', ws', a1, a2, a3, a4, a5⟩ := R.ac j dj z
      have n : p' ≠ p := fun y2 => by
        rw [y2] at a1
        have := R.inj i j d0 dj p h z hp a1
        exact y ⟨this, by rw [← this]; exact hl⟩
      exact ⟨p', ws', a1, a2, by rw [upd_ne n]; exact a3, a4, a5⟩
  · have old : ∀ {j : Nat} {dj : List PyData}, (e.set i (some (.ac ds)))[j]? = some (some (.ac dj)) → ∃ dj', e[j]? = some (some (.ac dj')) := fun {j dj} z => by
      rw [set_get] at z
      by_cases y : i = j ∧ j < e.length
      · exact ⟨d0, by rw [← y.1]; exact h⟩
      · rw [if_neg y] at z
        exact ⟨dj, z⟩
    obtain ⟨d1, o1⟩ := old q1
    obtain ⟨d2, o2⟩ := old q2
    exact R.inj j k d1 d2 p' o1 o2 q3 q4
  · have n : a ≠ p := fun y => z2 ⟨i, d0, h, by rw [y]; exact hp⟩
    rw [upd_ne n]
    exact z1
  · rw [set_get]
    by_cases y : i = j ∧ j < e.length
    · rw [if_pos y, ← y.1, h]
      rfl
    · rw [if_neg y]
  · by_cases n : a = p
    · rw [n, upd_same]
      simp
    · rw [upd_ne n]
      exact z
end
section
variable {X : Cx} {a b : Expr} {fa fb : Fe} {pos : Pos}
def x_app (i : Nat) (fa : Fe) : Fe := fun e => if isAc e[i]? = true then (match fa e with
  | some (r, e1) => (match imR (frzR r), e1[i]? with
    | some d, some (some (.ac ds)) => if okLen (ds.length + 1) = true then some (.im .none, e1.set i (some (.ac (ds ++ [d])))) else none
    | _, _ => none)
  | none => none) else none
theorem frz_im {r : Rs} {d : PyData} (h : imR (frzR r) = some d) : frzR r = .im d := by
  cases r with
  | im d =>
    cases h
    rfl
  | ac ds =>
    cases h
    rfl
  | br i => cases h
theorem Rl.acP {K : PySem.W.Frag} {m : Option Addr} {E G0 G H : Hp} {e : Ev} {σ : St} {i : Nat} (R : Rl K m E G0 G e σ H) (h : isAc e[i]? = true) :
    ∃ p ws, σ[i]? = some (some (.ref p)) ∧ H p = some (.lst ws) := by
  obtain ⟨ds', q⟩ := isAc_iff.mp h
  obtain ⟨p, ws, h1, h2, h3, _⟩ := R.ac i ds' q
  exact ⟨p, ws, h1, h3⟩
theorem len_lt {n : Nat} (h : okLen (n + 1) = true) : n < sizeLine := by
  have := okLen_ok h
  omega
/-- xs.append(e) -/
theorem ed_app (i : Nat) {x : Str} {np apos : Pos} (ha : ED X a fa) (hN : X.N[i]? = some x := by rfl)
    (hv : Vis X.env.scope x := by first | exact Or.inl rfl | exact Or.inr (Or.inl rfl) | exact Or.inr (Or.inr rfl)) (hd : (x == ("__debug__" : Str)) = false := by decide) (hcd : (x == ("__classdict__" : Str)) = false := by decide)
    (hbase : attributeBase (.Name x np) "append" X.env (eval (.Name x np) X.env) = eval (.Name x np) X.env := by rfl)
    (hfew : ((backTo pos (starEach [a] X.env)).all (fun x => !x.1) && (backToKw pos (keywordEach [] X.env)).all (fun x => x.1.isSome)
      && decide (([a] : List Expr).length + ([] : List Keyword).length + (if ([] : List Keyword).isEmpty then 0 else 1) < 30)) = true := by rfl)
    (hline : (apos.endLine == pos.line) = true := by rfl) (hs : starEach [a] X.env = (false, eval a X.env) :: starEach [] X.env := by rfl) (hplain : (backTo pos (starEach [] X.env)).any (·.1) = false := by rfl) :
    ED X (.Call (.Attribute (.Name x np) "append" apos) [a] [] pos) (x_app i fa) := by
  obtain ⟨t, p, k⟩ := ha
  refine ⟨_, pe_bm PySem.F.plainAttrs_list PySem.F.slot_list_append PySem.F.type_list_append mt_append (pe_var hN hv hd hcd) (pa_cons p pa_nil hs) hbase hfew hline hs hplain, fun m E G0 G e σ H r e' Q R q P => ?_⟩
  unfold x_app at q
  by_cases h0 : isAc e[i]? = true
  · rw [if_pos h0] at q
    obtain ⟨l, w0, hσ, hl⟩ := R.acP h0
    refine ⟨.ref l, hσ, .inl ⟨rfl, w0, .inl (.inl hl)⟩, ?_⟩
    split at q
    · rename_i r1 e1 h1
      split at q
      · rename_i d ds h2 h3
        by_cases h4 : okLen (ds.length + 1) = true
        · rw [if_pos h4] at q
          cases q
          refine k m E G0 G e σ H r1 e1 _ R h1 fun v G1 H1 R1 S1 V1 N1 => ?_
          obtain ⟨G2, R2, S2, s2, V2⟩ := R1.freeze S1 V1 N1
          rw [frz_im h2] at V2
          obtain ⟨p', ws, q1, q2, q3, q4, q5⟩ := R2.ac i ds h3
          rw [hσ] at q1
          cases q1
          obtain ⟨R3, S3⟩ := R2.put h3 hσ (dpAll_app q4 (.cons V2 .nil))
          exact ⟨l, ws, v, rfl, rfl, q3, by rw [dpAll_len q4]; exact len_lt h4, P .non G2 _ R3 (S2.trans S3) .non True.intro⟩
        · rw [if_neg h4] at q
          cases q
      · cases q
    · cases q
  · rw [if_neg h0] at q
    cases q
/-! xs.extend(ys), ys a new list -/
def x_ext (i : Nat) (fa : Fe) : Fe := fun e => if isAc e[i]? = true then (match fa e with
  | some (.ac es, e1) => (match e1[i]? with
    | some (some (.ac ds)) => if okLen (ds.length + es.length) = true then some (.im .none, e1.set i (some (.ac (ds ++ es)))) else none
    | _ => none)
  | _ => none) else none
theorem ed_ext (i : Nat) {x : Str} {np apos : Pos} (ha : ED X a fa) (hN : X.N[i]? = some x := by rfl)
    (hv : Vis X.env.scope x := by first | exact Or.inl rfl | exact Or.inr (Or.inl rfl) | exact Or.inr (Or.inr rfl)) (hd : (x == ("__debug__" : Str)) = false := by decide) (hcd : (x == ("__classdict__" : Str)) = false := by decide)
    (hbase : attributeBase (.Name x np) "extend" X.env (eval (.Name x np) X.env) = eval (.Name x np) X.env := by rfl)
    (hfew : ((backTo pos (starEach [a] X.env)).all (fun x => !x.1) && (backToKw pos (keywordEach [] X.env)).all (fun x => x.1.isSome)
      && decide (([a] : List Expr).length + ([] : List Keyword).length + (if ([] : List Keyword).isEmpty then 0 else 1) < 30)) = true := by rfl)
    (hline : (apos.endLine == pos.line) = true := by rfl) (hs : starEach [a] X.env = (false, eval a X.env) :: starEach [] X.env := by rfl) (hplain : (backTo pos (starEach [] X.env)).any (·.1) = false := by rfl) :
    ED X (.Call (.Attribute (.Name x np) "extend" apos) [a] [] pos) (x_ext i fa) := by
  obtain ⟨t, p, k⟩ := ha
  refine ⟨_, pe_bm PySem.F.plainAttrs_list PySem.F.slot_list_extend PySem.F.type_list_extend mt_extend (pe_var hN hv hd hcd) (pa_cons p pa_nil hs) hbase hfew hline hs hplain, fun m E G0 G e σ H r e' Q R q P => ?_⟩
  unfold x_ext at q
  by_cases h0 : isAc e[i]? = true
  · rw [if_pos h0] at q
    obtain ⟨l, w0, hσ, hl⟩ := R.acP h0
    refine ⟨.ref l, hσ, .inl ⟨rfl, w0, .inl (.inl hl)⟩, ?_⟩
    split at q
    · rename_i es e1 h1
      split at q
      · rename_i ds h3
        by_cases h4 : okLen (ds.length + es.length) = true
        · rw [if_pos h4] at q
          cases q
          refine k m E G0 G e σ H _ e1 _ R h1 fun v G1 H1 R1 S1 V1 N1 => ?_
          obtain ⟨b, zs, rfl, b1, b2, b3, b4, b5⟩ := V1
          obtain ⟨p', ws, q1, q2, q3, q4, q5⟩ := R1.ac i ds h3
          rw [hσ] at q1
          cases q1
          obtain ⟨R3, S3⟩ := R1.put h3 hσ (dpAll_app q4 b4)
          exact ⟨l, b, ws, zs, rfl, rfl, q3, b3, by rw [dpAll_len q4, dpAll_len b4]; exact okLen_ok h4, P .non G1 _ R3 (S1.trans S3) .non True.intro⟩
        · rw [if_neg h4] at q
          cases q
      · cases q
    · cases q
  · rw [if_neg h0] at q
    cases q
/-! xs[k] = v -/
def s_put (i : Nat) (fv fk : Fe) : Fs := fun e => match fv e with
  | some (r, e1) => if isAc e1[i]? = true then (match imR (frzR r), fk e1 with
    | some d, some (.im (.int k), e2) => (match e2[i]? with
      | some (some (.ac ds)) => (match ixN ds.length k with
        | some j => some (.nx (e2.set i (some (.ac (ds.set j d)))))
        | none => none)
      | _ => none)
    | _, _ => none) else none
  | none => none
theorem sd_put (i : Nat) {x : Str} {np tp : Pos} (hv' : ED X a fa) (hk : ED X b fb) (hN : X.N[i]? = some x := by rfl)
    (hv : Vis X.env.scope x := by first | exact Or.inl rfl | exact Or.inr (Or.inl rfl) | exact Or.inr (Or.inr rfl)) (hd : (x == ("__debug__" : Str)) = false := by decide) (hcd : (x == ("__classdict__" : Str)) = false := by decide)
    (hs : swapsWithSole [.Subscript (.Name x np) b tp] a pos.line X.env = pure false := by rfl) (hw : swappedStores [.Subscript (.Name x np) b tp] a X.env = pure none := by rfl)
    (h1 : (assignEach [.Subscript (.Name x np) b tp] X.env).map (·.2) = [assign (.Subscript (.Name x np) b tp) X.env] := by rfl)
    (hz : ∀ v, assign (.Subscript (.Name x np) b tp) X.env v = (do
      let ov ← holding [v] (eval (.Name x np) X.env)
      let iv ← holding [v, ov] (eval b X.env)
      standAt tp
      holding [v, ov, iv] ((setItem ov iv v))
      release [v, ov, iv] []) := by intros; rfl) : SD X (.Assign [.Subscript (.Name x np) b tp] a pos) (s_put i fa fb) := by
  obtain ⟨t, p, k⟩ := hv'
  obtain ⟨t2, p2, k2⟩ := hk
  refine ⟨_, ps_asg p (pg_sub (pe_var hN hv hd hcd) p2 set_list hz) hs hw h1, fun m E G0 G e σ H fl D R q P => ?_⟩
  unfold s_put at q
  split at q
  · rename_i r e1 h1
    by_cases h0 : isAc e1[i]? = true
    · rw [if_pos h0] at q
      split at q
      · rename_i d kk e2 h2 h3
        split at q
        · rename_i ds h4
          split at q
          · rename_i j h5
            cases q
            refine k m E G0 G e σ H r e1 _ R.r h1 fun v G1 H1 R1 S1 V1 N1 => ?_
            obtain ⟨G2, R2, S2, s2, V2⟩ := R1.freeze S1 V1 N1
            rw [frz_im h2] at V2
            obtain ⟨l, w0, hσ, hl⟩ := R2.acP h0
            refine ⟨.ref l, hσ, ?_⟩
            refine k2 m E G0 G2 e1 σ H1 _ e2 _ R2 h3 fun u G3 H3 R3 S3 V3 N3 => ?_
            cases V3
            obtain ⟨p', ws, q1, q2, q3, q4, q5⟩ := R3.ac i ds h4
            rw [hσ] at q1
            cases q1
            obtain ⟨R4, S4⟩ := R3.put h4 hσ (dpAll_set j q4 (dp_same S3.gg V2))
            exact ⟨l, ws, kk, j, rfl, rfl, q3, by rw [dpAll_len q4]; exact h5, P G3 σ _ (S2.gg.trans S3.gg) (R.exp R4 (S2.trans (S3.trans S4)))⟩
          · cases q
        · cases q
      · cases q
    · rw [if_neg h0] at q
      cases q
  · cases q
/-! xs[k] op= v, ints -/
theorem get_list : PGet X (rIxL X.K) := by
  rintro pins s σ H o i ov iv Q I ro ri ⟨p, xs, kk, z, rfl, rfl, hq, he, q⟩
  cases ro
  obtain ⟨t', rfl⟩ := ri
  obtain ⟨us, vals, place, small⟩ := I.list hq
  have line := line63
  have same := vals.length
  have here : ∀ j : Nat, xs[j]? = some z → ∃ u, us.toArray[j]? = some u ∧ EP X pins σ Q u s := fun j hj => by
    obtain ⟨u, hu, ru⟩ := vals.get hj
    exact ⟨u, by rw [List.getElem?_toArray]; exact hu, z, H, I, ru, q⟩
  unfold atI ixN at he
  split at he
  · split at he
    · rename_i front short
      obtain ⟨u, hu, done⟩ := here kk.toNat he
      exact wpAny_getItem_list place.isList front (by omega) hu done
    · cases he
  · split at he
    · rename_i back deep
      obtain ⟨u, hu, done⟩ := here (kk + xs.length).toNat he
      have size : us.toArray.size = xs.length := by
        rw [List.size_toArray]
        exact same.symm
      exact wpAny_getItem_list_neg place.isList (by omega) (by rw [size]; exact deep) (by omega) (by rw [size]; exact hu) done
    · cases he
/-- g: the operator -/
def s_augI (g : Int → Int → Int) (i : Nat) (fk fv : Fe) : Fs := fun e => if isAc e[i]? = true then (match fk e with
  | some (.im (.int k), e1) => (match e1[i]? with
    | some (some (.ac ds)) => (match atI ds k, fv e1 with
      | some (.int a), some (.im (.int b), e2) => (match e2[i]? with
        | some (some (.ac ds2)) => (match ixN ds2.length k with
          | some j => some (.nx (e2.set i (some (.ac (ds2.set j (.int (g a b)))))))
          | none => none)
        | _ => none)
      | _, _ => none)
    | _ => none)
  | _ => none) else none
theorem sd_augI {op : Operator} (g : Int → Int → Int) (ho : PIp X op (ipI g)) (i : Nat) {x : Str} {np tp : Pos} (hk : ED X b fb) (hv' : ED X a fa) (hN : X.N[i]? = some x := by rfl)
    (hv : Vis X.env.scope x := by first | exact Or.inl rfl | exact Or.inr (Or.inl rfl) | exact Or.inr (Or.inr rfl)) (hd : (x == ("__debug__" : Str)) = false := by decide) (hcd : (x == ("__classdict__" : Str)) = false := by decide)
    (hz : ∀ ov iv new, augStore b ov iv new = (do holding [new, ov, iv] (setItem ov iv new); release [new, ov, iv] []; pure .next) := by intros; rfl) : SD X (.AugAssign (.Subscript (.Name x np) b tp) op a pos) (s_augI g i fb fa) := by
  obtain ⟨t, p, k⟩ := hv'
  obtain ⟨t2, p2, k2⟩ := hk
  refine ⟨_, ps_augS (pe_var hN hv hd hcd) p2 get_list p ho set_list hz, fun m E G0 G e σ H fl D R q P => ?_⟩
  unfold s_augI at q
  by_cases h0 : isAc e[i]? = true
  · rw [if_pos h0] at q
    obtain ⟨l, w0, hσ, hl⟩ := R.r.acP h0
    refine ⟨.ref l, hσ, ?_⟩
    split at q
    · rename_i kk e1 h1
      split at q
      · rename_i ds h2
        split at q
        · rename_i a1 b1 e2 h3 h4
          split at q
          · rename_i ds2 h5
            split at q
            · rename_i j h6
              cases q
              refine k2 m E G0 G e σ H _ e1 _ R.r h1 fun u G1 H1 R1 S1 V1 N1 => ?_
              cases V1
              obtain ⟨p', ws, q1, q2, q3, q4, q5⟩ := R1.ac i ds h2
              rw [hσ] at q1
              cases q1
              obtain ⟨z, z1, z2⟩ := dpAll_atI q4 h3
              cases z2
              refine ⟨l, ws, kk, .int a1, rfl, rfl, .inl (.inl q3), z1, ?_⟩
              refine k m E G0 G1 e1 σ H1 _ e2 _ R1 h4 fun u G2 H2 R2 S2 V2 N2 => ?_
              cases V2
              refine ⟨a1, b1, rfl, rfl, ?_⟩
              obtain ⟨p', ws2, q1, q2, q3, q4, q5⟩ := R2.ac i ds2 h5
              rw [hσ] at q1
              cases q1
              obtain ⟨R4, S4⟩ := R2.put h5 hσ (dpAll_set j q4 (.int (g a1 b1)))
              exact ⟨l, ws2, kk, j, rfl, rfl, q3, by rw [dpAll_len q4]; exact h6, P G2 σ _ (S1.gg.trans S2.gg) (R.exp R4 (S1.trans (S2.trans S4)))⟩
            · cases q
          · cases q
        · cases q
      · cases q
    · cases q
  · rw [if_neg h0] at q
    cases q
/-! x op= v, ints -/
def s_aug (g : Int → Int → Int) (i : Nat) (fv : Fe) : Fs := fun e => match e[i]? with
  | some (some (.im (.int a))) => (match fv e with
    | some (.im (.int b), e1) => if okS [i] e1 = true then some (.nx (e1.set i (some (.im (.int (g a b)))))) else none
    | _ => none)
  | _ => none
theorem sd_aug {op : Operator} (g : Int → Int → Int) (ho : PIp X op (ipI g)) (i : Nat) {x : Str} {np : Pos} (hNd : X.N.Nodup) (hv' : ED X a fa) (hN : X.N[i]? = some x := by rfl)
    (hx : Loc X.env.scope x := by first | exact .inl rfl | exact .inr rfl) (hf : X.fn x = true ∨ X.env.scope.names.lookup x = some .local := by first | exact .inl rfl | exact .inr rfl | assumption) : SD X (.AugAssign (.Name x np) op a pos) (s_aug g i fa) := by
  obtain ⟨t, p, k⟩ := hv'
  refine ⟨_, ps_aug hNd hN hx p ho hf, fun m E G0 G e σ H fl D R q P => ?_⟩
  unfold s_aug at q
  split at q
  · rename_i a1 h1
    split at q
    · rename_i b1 e1 h2
      by_cases ok : okS [i] e1 = true
      · rw [if_pos ok] at q
        cases q
        obtain ⟨v, v1, v2⟩ := R.r.im i _ h1
        cases v2
        refine ⟨_, v1, ?_⟩
        refine k m E G0 G e σ H _ e1 _ R.r h2 fun u G1 H1 R1 S1 V1 N1 => ?_
        cases V1
        exact ⟨a1, b1, rfl, rfl, P G1 _ H1 S1.gg ((R.exp R1 S1).setI (.int _) ok)⟩
      · rw [if_neg ok] at q
        cases q
    · cases q
  · cases q
/-! a target of names = value -/
def s_asg (γ : PyData → Ev → Option Ev) (S : List Nat) (f : Fe) : Fs := fun e => match f e with
  | some (r, e1) => if okS S e1 = true then (match imR (frzR r) with
    | some d => (match γ d e1 with
      | some e2 => some (.nx e2)
      | none => none)
    | none => none) else none
  | none => none
theorem sd_asg {tg : Expr} {S : List Nat} {γ : PyData → Ev → Option Ev} (hv : ED X a fa) (hg : GD X tg S γ) (hs : swapsWithSole [tg] a pos.line X.env = pure false := by rfl) (hw : swappedStores [tg] a X.env = pure none := by rfl)
    (h1 : (assignEach [tg] X.env).map (·.2) = [assign tg X.env] := by rfl) : SD X (.Assign [tg] a pos) (s_asg γ S fa) := by
  obtain ⟨t, p, k⟩ := hv
  obtain ⟨g, pg, kg⟩ := hg
  refine ⟨_, ps_asg p pg hs hw h1, fun m E G0 G e σ H fl D R q P => ?_⟩
  unfold s_asg at q
  split at q
  · rename_i r e1 h1
    by_cases ok : okS S e1 = true
    · rw [if_pos ok] at q
      split at q
      · rename_i d h2
        split at q
        · rename_i e2 h3
          cases q
          refine k m E G0 G e σ H r e1 _ R.r h1 fun v G1 H1 R1 S1 V1 N1 => ?_
          obtain ⟨G2, R2, S2, s2, V2⟩ := R1.freeze S1 V1 N1
          rw [frz_im h2] at V2
          have Rx := R.exp R2 S2
          refine kg m E G0 G2 e1 σ H1 v d e2 _ R2 V2 h3 fun σ3 R3 out sl el ac1 => ?_
          exact P G2 σ3 H1 S2.gg ⟨R3, fun p z => by
            obtain ⟨z1, z2⟩ := Rx.z p z
            obtain ⟨o1, o2⟩ := out 0 (okS_no ok z1)
            rw [o1, o2]
            exact ⟨z1, z2⟩⟩
        · cases q
      · cases q
    · rw [if_neg ok] at q
      cases q
  · cases q
end
end DL
namespace DL
open L2 PySem PySem.Spec PyProof.Rows

/-! ### what a def of the text keeps -/
def VrF (K : PySem.W.Frag) (G H H' : Hp) (v : V) : Rs → Prop
  | .im d => Dp K G v d
  | .ac ds => ∃ p ws, v = .ref p ∧ H p = none ∧ G p = none ∧ H' p = some (.lst ws) ∧ DpAll K G ws ds
  | .br _ => False
/-- n data in, a result out -/
def spD (K : PySem.W.Frag) (n : Nat) (φ : List PyData → Option Rs) : Sp := fun vs H Q _ => ∃ G ds r, Same G H ∧ DpAll K G vs ds ∧ vs.length = n ∧ φ ds = some r ∧
  ∀ v G' H', Same G G' → Same G' H' → Same H H' → (∀ a, G a = none → H a ≠ none → G' a = none) → VrF K G' H H' v r → Q v H'
/-- a list that is written, n data in; a result and the list out -/
def spM (K : PySem.W.Frag) (n : Nat) (φ : List PyData → List PyData → Option (Rs × List PyData)) : Sp := fun vs H Q _ => ∃ G p ws c us ds r c', Same G H ∧ vs = .ref p :: us ∧ H p = some (.lst ws) ∧ G p = none ∧ DpAll K G ws c ∧ DpAll K G us ds ∧ us.length = n ∧ φ c ds = some (r, c') ∧
  ∀ v G' H' ws', Same G G' → Same G' H' → (∀ a o, H a = some o → a ≠ p → H' a = some o) → H' p = some (.lst ws') → DpAll K G' ws' c' → (∀ a, G a = none → H a ≠ none → G' a = none) → VrF K G' H H' v r → Q v H'
/-- a def of the module that is kept: where it lies, what it promises, how it is called -/
inductive Kf (P : Program) (w : World) (K : PySem.W.Frag) (mg : Str → Option Value) (base : Heap) (k : Nat) (x : Str) (sp : Sp) (dvs : List V) : Prop where
  | kept (at_ : Addr) (fd : FuncData) (names : List Str) (given : List Value) (fn : FnOk P w K mg base CX0 k at_ fd names sp) (here : mg x = some (.ref at_)) (stays : PySem.W.keepIn K (.ref at_) = true) (binds : Binds K fd names given) (vals : Vals dvs given)
/-! ### the calls -/
def x_call (φ : List PyData → Option Rs) (dds : List PyData) (fa : Fa) : Fe := fun e => match argsI fa e with
  | some (ds, e1) => (match φ (ds ++ dds) with
    | some (.im d) => some (.im d, e1)
    | some (.ac cs) => some (.ac cs, e1)
    | _ => none)
  | none => none
section
variable {K : PySem.W.Frag} {m : Option Addr} {E G0 G G' H H' : Hp} {e : Ev} {σ : St} {v : V} {r : Rs}
/-- behind a call that writes nothing -/
theorem Rl.called (R : Rl K m E G0 G e σ H) (s1 : Same G G') (s2 : Same G' H') (s3 : Same H H') (n : ∀ a, G a = none → H a ≠ none → G' a = none) : Rl K m E G0 G' e σ H' ∧ Stp σ G H e G' H' e := by
  have th : ∀ a, H a ≠ none → H' a ≠ none := fun a z => by
    cases q : H a with
    | none => exact absurd q z
    | some o => rw [s3 a o q]; simp
  refine ⟨⟨R.gg.trans s1, s2, fun a o z1 z2 => s3 a o (R.eh a o z1 z2), fun a z => ⟨(R.mh a z).1, th a (R.mh a z).2⟩, fun a z1 z2 => n a (R.nw a z1 z2) ?_, R.len, fun i d q => ?_, fun i ds q => ?_, R.inj⟩, s1, n, fun a o z _ => s3 a o z, fun _ => rfl, th⟩
  · by_cases y : m = some a
    · exact (R.mh a y).2
    · cases q : E a with
      | none => exact absurd q z2
      | some o => rw [R.eh a o q y]; simp
  · obtain ⟨v, h1, h2⟩ := R.im i d q
    exact ⟨v, h1, dp_same s1 h2⟩
  · obtain ⟨p, ws, h1, h2, h3, h4, h5⟩ := R.ac i ds q
    exact ⟨p, ws, h1, n p h2 (by rw [h3]; simp), s3 p _ h3, dpAll_same s1 h4, h5⟩
theorem Rl.vrf (R : Rl K m E G0 G e σ H) (h : VrF K G' H H' v r) : Vr K E G' H' σ e v r ∧ Nw H v r := by
  cases r with
  | im d => exact ⟨h, True.intro⟩
  | br i => exact h.elim
  | ac ds =>
    obtain ⟨p, ws, rfl, h1, h2, h3, h4⟩ := h
    obtain ⟨f1, f2, f3, f4⟩ := R.fresh h1
    exact ⟨⟨p, ws, rfl, f2, h2, h3, h4, f3⟩, fun q z => by
      cases z
      exact h1⟩
end
def dvsD (K : PySem.W.Frag) (dvs : List V) (dds : List PyData) : Prop := ∀ G : Hp, DpAll K G dvs dds
theorem dvs0 {K : PySem.W.Frag} : dvsD K [] [] := fun _ => .nil
theorem dvsI {K : PySem.W.Frag} {i : Int} {vs : List V} {ds : List PyData} (h : dvsD K vs ds) : dvsD K (.int i :: vs) (.int i :: ds) := fun G => .cons (.int i) (h G)
theorem dvsN {K : PySem.W.Frag} {vs : List V} {ds : List PyData} (h : dvsD K vs ds) : dvsD K (.non :: vs) (.none :: ds) := fun G => .cons .non (h G)
theorem dvsB {K : PySem.W.Frag} {b : Bool} {vs : List V} {ds : List PyData} (h : dvsD K vs ds) : dvsD K (.bl b :: vs) (.bool b :: ds) := fun G => .cons (.bl b) (h G)
section
variable {X : Cx} {a : Expr} {es : List Expr} {fa : Fa} {p pos : Pos} {x : Str} {j k n : Nat} {dvs : List V} {dds : List PyData}
theorem call_ok {φ : List PyData → Option Rs} {t : TA} (hd : dvsD X.K dvs dds) (hn : ∀ ds, (φ ds).isSome = true → ds.length = n)
    (kk : ∀ (m : Option Addr) (E G0 G : Hp) (e : Ev) (σ : St) (H : Hp) (rs : List Rs) (e' : Ev) (Q : List V → Hp → Prop),
    Rl X.K m E G0 G e σ H → fa e = some (rs, e') → (∀ vs G' H', Rl X.K m E G0 G' e' σ H' → Stp σ G H e G' H' e' → VrAll X.K E G' H' σ e' vs rs → Q vs H') → t σ H Q)
    (m : Option Addr) (E G0 G : Hp) (e : Ev) (σ : St) (H : Hp) (rr : Rs) (e' : Ev) (Q : VK) (R : Rl X.K m E G0 G e σ H) (q : x_call φ dds fa e = some (rr, e')) (P : Po X.K m E G0 σ G H e rr e' Q) : tCall (spD X.K n φ) dvs E0 t σ H Q := by
  unfold x_call at q
  cases h1 : argsI fa e with
  | none => simp only [h1] at q; cases q
  | some z =>
    obtain ⟨ds, e1⟩ := z
    simp only [h1] at q
    obtain ⟨rs, q1, q2⟩ := argsI_ok h1
    have main : ∀ r, φ (ds ++ dds) = some r → r = rr ∧ e1 = e' → tCall (spD X.K n φ) dvs E0 t σ H Q := fun r h2 ⟨z1, z2⟩ => by
      subst z1 z2
      refine kk m E G0 G e σ H rs e1 _ R q1 fun vs G1 H1 R1 S1 V1 => ?_
      have D1 := vr_imAll V1 q2
      have D2 := dpAll_app D1 (hd G1)
      refine ⟨G1, ds ++ dds, r, R1.gh, D2, ?_, h2, fun v G' H' s1 s2 s3 nw vr => ?_⟩
      · rw [dpAll_len D2]
        exact hn _ (by rw [h2]; rfl)
      · obtain ⟨R2, S2⟩ := R1.called s1 s2 s3 nw
        obtain ⟨V2, N2⟩ := R1.vrf vr
        exact P v G' H' R2 (S1.trans S2) V2 (nw_back S1 v N2)
    cases h2 : φ (ds ++ dds) with
    | none => simp only [h2] at q; cases q
    | some r =>
      cases r with
      | im d =>
        simp only [h2, Option.some.injEq, Prod.mk.injEq] at q
        exact main _ h2 q
      | ac d =>
        simp only [h2, Option.some.injEq, Prod.mk.injEq] at q
        exact main _ h2 q
      | br d => simp only [h2] at q; cases q
theorem ed_call {φ : List PyData → Option Rs} (F : Kf X.prog X.w X.K X.mg X.base k x (spD X.K n φ) dvs) (hr : Room j X.A) (hk : k ≤ j) (hd : dvsD X.K dvs dds) (hn : ∀ ds, (φ ds).isSome = true → ds.length = n) (h : AD X (a :: es) fa) (hg : Gl X x := by rfl)
    (hdb : (x == ("__debug__" : Str)) = false := by decide) (he : starEach (a :: es) X.env = (false, eval a X.env) :: starEach es X.env := by rfl) (hpl : (backTo pos (starEach es X.env)).any (·.1) = false := by rfl) :
    ED X (.Call (.Name x p) (a :: es) [] pos) (x_call φ dds fa) := by
  obtain ⟨f, fd, ps, ds, F, hm, kp, hb, hv⟩ := F
  obtain ⟨t, pa, kk⟩ := h
  exact ⟨_, pe_call F (hr.mono hk) hg hm kp hb hv (E := E0) (fun _ _ _ _ _ _ _ z => z.elim) pa hdb he hpl, call_ok hd hn kk⟩
theorem ed_call0 {φ : List PyData → Option Rs} (F : Kf X.prog X.w X.K X.mg X.base k x (spD X.K n φ) dvs) (hr : Room j X.A) (hk : k ≤ j) (hd : dvsD X.K dvs dds) (hn : ∀ ds, (φ ds).isSome = true → ds.length = n) (hg : Gl X x := by rfl)
    (hdb : (x == ("__debug__" : Str)) = false := by decide) : ED X (.Call (.Name x p) [] [] pos) (x_call φ dds a_nil) := by
  obtain ⟨f, fd, ps, ds, F, hm, kp, hb, hv⟩ := F
  refine ⟨_, pe_call0 F (hr.mono hk) hg hm kp hb hv (E := E0) (fun _ _ _ _ _ _ _ z => z.elim) hdb, ?_⟩
  exact call_ok hd hn fun m E G0 G e σ H rs e' Q R q P => by
    cases q
    exact P [] G H R Stp.refl True.intro
/-! .. that writes its first argument -/
def x_callM (φ : List PyData → List PyData → Option (Rs × List PyData)) (dds : List PyData) (fa : Fa) : Fe := fun e => match fa e with
  | some (.br i :: rs, e1) => (match imAll rs, e1[i]? with
    | some ds, some (some (.ac c)) => (match φ c (ds ++ dds) with
      | some (.im d, c') => some (.im d, e1.set i (some (.ac c')))
      | some (.ac cs, c') => some (.ac cs, e1.set i (some (.ac c')))
      | _ => none)
    | _, _ => none)
  | _ => none
theorem callM_ok {φ : List PyData → List PyData → Option (Rs × List PyData)} {t : TA} (hd : dvsD X.K dvs dds) (hn : ∀ c ds, (φ c ds).isSome = true → ds.length = n)
    (kk : ∀ (m : Option Addr) (E G0 G : Hp) (e : Ev) (σ : St) (H : Hp) (rs : List Rs) (e' : Ev) (Q : List V → Hp → Prop),
    Rl X.K m E G0 G e σ H → fa e = some (rs, e') → (∀ vs G' H', Rl X.K m E G0 G' e' σ H' → Stp σ G H e G' H' e' → VrAll X.K E G' H' σ e' vs rs → Q vs H') → t σ H Q)
    (m : Option Addr) (E G0 G : Hp) (e : Ev) (σ : St) (H : Hp) (rr : Rs) (e' : Ev) (Q : VK) (R : Rl X.K m E G0 G e σ H) (q : x_callM φ dds fa e = some (rr, e')) (P : Po X.K m E G0 σ G H e rr e' Q) : tCall (spM X.K n φ) dvs E0 t σ H Q := by
  unfold x_callM at q
  split at q
  · rename_i i rs e1 h1
    split at q
    · rename_i ds c h2 h3
      have main : ∀ r c', φ c (ds ++ dds) = some (r, c') → r = rr ∧ e1.set i (some (.ac c')) = e' → tCall (spM X.K n φ) dvs E0 t σ H Q := fun r c' h4 ⟨z1, z2⟩ => by
        subst z1 z2
        refine kk m E G0 G e σ H _ e1 _ R h1 fun vs G1 H1 R1 S1 V1 => ?_
        cases vs with
        | nil => exact V1.elim
        | cons v0 vs =>
          obtain ⟨V0, V1⟩ := V1
          obtain ⟨p0, ws, o1, o2, o3, o4, o5⟩ := R1.ac i c h3
          obtain ⟨_, _, y2⟩ := V0
          rw [o1] at y2
          cases y2
          have D2 := dpAll_app (vr_imAll V1 h2) (hd G1)
          refine ⟨G1, p0, ws, c, vs ++ dvs, ds ++ dds, r, c', R1.gh, rfl, o3, o2, o4, D2, ?_, h4, fun v G' H' ws' s1 s2 s3 hp dc nw vr => ?_⟩
          · rw [dpAll_len D2]
            exact hn c _ (by rw [h4]; rfl)
          · have gp : G' p0 = none := nw p0 o2 (by rw [o3]; simp)
            have hl : i < e1.length := (List.getElem?_eq_some_iff.mp h3).1
            have th : ∀ a, H1 a ≠ none → H' a ≠ none := fun a z => by
              by_cases y : a = p0
              · rw [y, hp]; simp
              · cases q : H1 a with
                | none => exact absurd q z
                | some o => rw [s3 a o q y]; simp
            have S2 : Stp σ G1 H1 e1 G' H' (e1.set i (some (.ac c'))) := by
              refine ⟨s1, nw, fun a o z1 z2 => s3 a o z1 fun y => z2 ⟨i, c, h3, by rw [y]; exact o1⟩, fun j => ?_, th⟩
              rw [set_get]
              by_cases y : i = j ∧ j < e1.length
              · rw [if_pos y, ← y.1, h3]
                rfl
              · rw [if_neg y]
            have R2 : Rl X.K m E G0 G' (e1.set i (some (.ac c'))) σ H' := by
              refine ⟨R1.gg.trans s1, s2, fun a o z1 z2 => ?_, fun a z => ⟨(R1.mh a z).1, th a (R1.mh a z).2⟩, fun a z1 z2 => nw a (R1.nw a z1 z2) ?_, by rw [List.length_set]; exact R1.len, fun j d q => ?_, fun j dj q => ?_, fun j k dj dk p' q1 q2 q3 q4 => ?_⟩
              · refine s3 a o (R1.eh a o z1 z2) fun y => ?_
                rcases o5 with o5 | o5
                · rw [y, o5] at z1
                  cases z1
                · exact z2 (by rw [y]; exact o5.1)
              · by_cases y : m = some a
                · exact (R1.mh a y).2
                · cases q : E a with
                  | none => exact absurd q z2
                  | some o => rw [R1.eh a o q y]; simp
              · rw [set_get] at q
                by_cases y : i = j ∧ j < e1.length
                · rw [if_pos y] at q
                  cases q
                · rw [if_neg y] at q
                  obtain ⟨v, a1, a2⟩ := R1.im j d q
                  exact ⟨v, a1, dp_same s1 a2⟩
              · rw [set_get] at q
                by_cases y : i = j ∧ j < e1.length
                · rw [if_pos y] at q
                  cases q
                  rw [← y.1]
                  exact ⟨p0, ws', o1, gp, hp, dc, o5⟩
                · rw [if_neg y] at q
                  obtain ⟨p', w', a1, a2, a3, a4, a5⟩ := R1.ac j dj q
                  have ne : p' ≠ p0 := fun y2 => by
                    rw [y2] at a1
                    have := R1.inj i j c dj p0 h3 q o1 a1
                    exact y ⟨this, by rw [← this]; exact hl⟩
                  exact ⟨p', w', a1, nw p' a2 (by rw [a3]; simp), s3 p' _ a3 ne, dpAll_same s1 a4, a5⟩
              · have old : ∀ {j : Nat} {dj : List PyData}, (e1.set i (some (.ac c')))[j]? = some (some (.ac dj)) → ∃ dj', e1[j]? = some (some (.ac dj')) := fun {j dj} z => by
                  rw [set_get] at z
                  by_cases y : i = j ∧ j < e1.length
                  · exact ⟨c, by rw [← y.1]; exact h3⟩
                  · rw [if_neg y] at z
                    exact ⟨dj, z⟩
                obtain ⟨d1, b1⟩ := old q1
                obtain ⟨d2, b2⟩ := old q2
                exact R1.inj j k d1 d2 p' b1 b2 q3 q4
            obtain ⟨V2, N2⟩ := R1.vrf vr
            have V3 : Vr X.K E G' H' σ (e1.set i (some (.ac c'))) v r := by
              cases r with
              | im d => exact V2
              | br _ => exact vr.elim
              | ac cs =>
                obtain ⟨p', w', f1, f2, f3, f4, f5, f6⟩ := V2
                exact ⟨p', w', f1, f2, f3, f4, f5, fun z => f6 ((own_kd S2.kd).mp z)⟩
            exact P v G' H' R2 (S1.trans S2) V3 (nw_back S1 v N2)
      cases h4 : φ c (ds ++ dds) with
      | none => simp only [h4] at q; cases q
      | some z =>
        obtain ⟨r, c'⟩ := z
        cases r with
        | im d =>
          simp only [h4, Option.some.injEq, Prod.mk.injEq] at q
          exact main _ _ h4 q
        | ac d =>
          simp only [h4, Option.some.injEq, Prod.mk.injEq] at q
          exact main _ _ h4 q
        | br d => simp only [h4] at q; cases q
    · cases q
  · cases q
theorem ed_callM {φ : List PyData → List PyData → Option (Rs × List PyData)} (F : Kf X.prog X.w X.K X.mg X.base k x (spM X.K n φ) dvs) (hr : Room j X.A) (hk : k ≤ j) (hd : dvsD X.K dvs dds) (hn : ∀ c ds, (φ c ds).isSome = true → ds.length = n) (h : AD X (a :: es) fa) (hg : Gl X x := by rfl)
    (hdb : (x == ("__debug__" : Str)) = false := by decide) (he : starEach (a :: es) X.env = (false, eval a X.env) :: starEach es X.env := by rfl) (hpl : (backTo pos (starEach es X.env)).any (·.1) = false := by rfl) :
    ED X (.Call (.Name x p) (a :: es) [] pos) (x_callM φ dds fa) := by
  obtain ⟨f, fd, ps, ds, F, hm, kp, hb, hv⟩ := F
  obtain ⟨t, pa, kk⟩ := h
  exact ⟨_, pe_call F (hr.mono hk) hg hm kp hb hv (E := E0) (fun _ _ _ _ _ _ _ z => z.elim) pa hdb he hpl, callM_ok hd hn kk⟩
end
/-! ### a promise is kept by the body -/
def finR (r : Rs) (e : Ev) : Option Rs := match r with
  | .im d => some (.im d)
  | .ac ds => some (.ac ds)
  | .br i => (match e[i]? with
    | some (some (.ac ds)) => some (.ac ds)
    | _ => none)
def env0 (ds : List PyData) (nl : Nat) : Ev := ds.map (fun d => some (Sl.im d)) ++ List.replicate nl none
def runF (n nl : Nat) (g : Fs) (ds : List PyData) : Option Rs := if ds.length = n then (match g (env0 ds nl) with
  | some (.rt r e) => finR r e
  | some (.nx _) => some (.im .none)
  | _ => none) else none
def envM (c : List PyData) (ds : List PyData) (nl : Nat) : Ev := some (.ac c) :: env0 ds nl
def ownC (e : Ev) (r : Rs) : Option (Rs × List PyData) := match e with
  | some (.ac c) :: _ => some (r, c)
  | _ => none
def runM (n nl : Nat) (g : Fs) (c ds : List PyData) : Option (Rs × List PyData) := if ds.length = n then (match g (envM c ds nl) with
  | some (.rt (.im d) e) => ownC e (.im d)
  | some (.rt (.ac d) e) => ownC e (.ac d)
  | some (.nx e) => ownC e (.im .none)
  | _ => none) else none
theorem runF_len {n nl : Nat} {g : Fs} : ∀ ds, (runF n nl g ds).isSome = true → ds.length = n := fun ds h => by
  unfold runF at h
  by_cases z : ds.length = n
  · exact z
  · rw [if_neg z] at h
    cases h
theorem runM_len {n nl : Nat} {g : Fs} : ∀ c ds, (runM n nl g c ds).isSome = true → ds.length = n := fun c ds h => by
  unfold runM at h
  by_cases z : ds.length = n
  · exact z
  · rw [if_neg z] at h
    cases h
section
variable {K : PySem.W.Frag} {G H : Hp} {vs us : List V} {ds c : List PyData} {nl : Nat}
theorem env0_at {i : Nat} {s : Sl} (h : (env0 ds nl)[i]? = some (some s)) : ∃ d, ds[i]? = some d ∧ s = .im d := by
  unfold env0 at h
  by_cases hi : i < ds.length
  · rw [List.getElem?_append_left (by rw [List.length_map]; exact hi), List.getElem?_map] at h
    cases z : ds[i]? with
    | none => rw [z] at h; cases h
    | some d =>
      rw [z] at h
      cases h
      exact ⟨d, rfl, rfl⟩
  · rw [List.getElem?_append_right (by rw [List.length_map]; omega)] at h
    rw [List.getElem?_replicate] at h
    split at h
    · cases h
    · cases h
theorem st_at {i : Nat} {v : V} {N : List Str} (h : vs[i]? = some v) : (L2.start N vs)[i]? = some (some v) := by
  unfold L2.start
  have hi := (List.getElem?_eq_some_iff.mp h).1
  rw [List.getElem?_append_left (by rw [List.length_map]; exact hi), List.getElem?_map, h]
  rfl
theorem rz_start {N : List Str} (s : Same G H) (q : DpAll K G vs ds) (hl : vs.length + nl = N.length) : Rz K none H G G (env0 ds nl) (L2.start N vs) H := by
  refine ⟨⟨Same.refl _, s, fun a o z _ => z, fun a z => (by cases z), fun a z _ => z, ?_, fun i d z => ?_, fun i d z => ?_, fun i j di dj p z => ?_⟩, fun p z => by cases z⟩
  · unfold env0 L2.start
    simp only [List.length_append, List.length_map, List.length_replicate]
    rw [dpAll_len q] at hl ⊢
    omega
  · obtain ⟨d', z1, z2⟩ := env0_at z
    cases z2
    obtain ⟨v, z3, z4⟩ := dpAll_get q z1
    exact ⟨v, st_at z3, z4⟩
  · obtain ⟨d', z1, z2⟩ := env0_at z
    cases z2
  · obtain ⟨d', z1, z2⟩ := env0_at z
    cases z2
theorem rz_startM {N : List Str} {p : Addr} {ws : List V} (s : Same G H) (hp : H p = some (.lst ws)) (hg : G p = none) (qc : DpAll K G ws c) (q : DpAll K G us ds) (hl : us.length + 1 + nl = N.length) : Rz K (some p) H G G (envM c ds nl) (L2.start N (.ref p :: us)) H := by
  have z0 : (L2.start N (V.ref p :: us))[0]? = some (some (.ref p)) := st_at rfl
  refine ⟨⟨Same.refl _, s, fun a o z _ => z, fun a z => ?_, fun a z _ => z, ?_, fun i d z => ?_, fun i d z => ?_, fun i j di dj p' z1 z2 => ?_⟩, fun p' z => ?_⟩
  · cases z
    rw [hp]
    simp
  · unfold envM env0 L2.start
    simp only [List.length_append, List.length_map, List.length_replicate, List.length_cons]
    rw [dpAll_len q] at hl ⊢
    omega
  · cases i with
    | zero => cases z
    | succ i =>
      obtain ⟨d', z1, z2⟩ := env0_at (i := i) (by simpa [envM] using z)
      cases z2
      obtain ⟨v, z3, z4⟩ := dpAll_get q z1
      exact ⟨v, st_at (by simpa using z3), z4⟩
  · cases i with
    | zero =>
      cases z
      exact ⟨p, ws, z0, hg, hp, qc, .inr ⟨rfl, rfl⟩⟩
    | succ i =>
      obtain ⟨d', z1, z2⟩ := env0_at (i := i) (by simpa [envM] using z)
      cases z2
  · have no : ∀ {i : Nat} {d : List PyData}, (envM c ds nl)[i]? = some (some (.ac d)) → i = 0 := fun {i d} z => by
      cases i with
      | zero => rfl
      | succ i =>
        obtain ⟨d', z1, z2⟩ := env0_at (i := i) (by simpa [envM] using z)
        cases z2
    rw [no z1, no z2]
    intros
    rfl
  · cases z
    exact ⟨rfl, z0⟩
end
section
variable {P : Program} {w : World} {K : PySem.W.Frag} {mg : Str → Option Value} {base : Heap} {x qual : Str} {params : Arguments} {body : List Stmt} {scope : Scope} {dvs : List V} {kws : List (Str × V)} {f : Addr} {fd : FuncData} {N ps : List Str} {k n nl : Nat} {g : Fs}
theorem fnD (F : FunD K x qual params body scope dvs kws f fd) (S : FnScope N ps scope) (hp : ps.length = n) (hl : n + nl = N.length)
    (hb : ∀ (cdv : Value) (A : Around) (outer : List Env) (s : Shared) (H : Hp) (E : XK), Room k (A.deeper (envOfC qual scope s.heap.objs.size f cdv)) → SsD (cxOf CX0 P w K mg base N qual scope f cdv A outer s H E).nox body g) :
    FnOk P w K mg base CX0 (k + 1) f fd ps (spD K n (runF n nl g)) := by
  refine F.ok S (fun vs H Q E h => ?_) fun cdv A outer s H vs Q E hr h => ?_
  · obtain ⟨_, _, _, _, _, h, _⟩ := h
    rw [h, hp]
  · obtain ⟨t, pt, kt⟩ := hb cdv A outer s H E hr
    obtain ⟨G, ds, r, s1, hd, hv, hr2, hQ⟩ := h
    refine ⟨t, pt.nox, ?_⟩
    have Rz0 : Rz K none H G G (env0 ds nl) (L2.start N vs) H := rz_start s1 hd (by omega)
    unfold runF at hr2
    rw [if_pos (by rw [← dpAll_len hd]; exact hv)] at hr2
    split at hr2
    · rename_i r' e' h1
      refine kt none H G G _ _ H _ _ Rz0 h1 fun v G' σ' H' s2 R' V' => ?_
      have hh : Same H H' := fun a o z => R'.r.eh a o z (by simp)
      have nw : ∀ a, G a = none → H a ≠ none → G' a = none := R'.r.nw
      refine hQ v G' H' s2 R'.r.gh hh nw ?_
      unfold finR at hr2
      cases r' with
      | im d =>
        cases hr2
        exact V'
      | ac d =>
        cases hr2
        obtain ⟨p, ws, a1, a2, a3, a4, a5, _⟩ := V'
        exact ⟨p, ws, a1, a2, a3, a4, a5⟩
      | br i =>
        dsimp only at hr2
        split at hr2
        · rename_i d h2
          cases hr2
          obtain ⟨d', b1, b2⟩ := V'
          obtain ⟨p, ws, a1, a2, a3, a4, a5⟩ := R'.r.ac i d h2
          rw [a1] at b2
          cases b2
          have a5 : H p = none := by
            rcases a5 with a5 | a5
            · exact a5
            · cases a5.1
          exact ⟨p, ws, rfl, a5, a2, a3, a4⟩
        · cases hr2
    · rename_i e' h1
      cases hr2
      refine kt none H G G _ _ H _ _ Rz0 h1 fun G' σ' H' s2 R' => ?_
      exact hQ .non G' H' s2 R'.r.gh (fun a o z => R'.r.eh a o z (by simp)) R'.r.nw .non
    · cases hr2
theorem fnM (F : FunD K x qual params body scope dvs kws f fd) (S : FnScope N ps scope) (hp : ps.length = n + 1) (hl : n + 1 + nl = N.length)
    (hb : ∀ (cdv : Value) (A : Around) (outer : List Env) (s : Shared) (H : Hp) (E : XK), Room k (A.deeper (envOfC qual scope s.heap.objs.size f cdv)) → SsD (cxOf CX0 P w K mg base N qual scope f cdv A outer s H E).nox body g) :
    FnOk P w K mg base CX0 (k + 1) f fd ps (spM K n (runM n nl g)) := by
  refine F.ok S (fun vs H Q E h => ?_) fun cdv A outer s H vs Q E hr h => ?_
  · obtain ⟨_, _, _, _, _, _, _, _, _, h, _, _, _, _, h2, _⟩ := h
    rw [h, List.length_cons, h2, hp]
  · obtain ⟨t, pt, kt⟩ := hb cdv A outer s H E hr
    obtain ⟨G, p, ws, c, us, ds, r, c', s1, rfl, h1, h2, h3, h4, h5, h6, hQ⟩ := h
    refine ⟨t, pt.nox, ?_⟩
    have Rz0 : Rz K (some p) H G G (envM c ds nl) (L2.start N (.ref p :: us)) H := rz_startM s1 h1 h2 h3 h4 (by omega)
    unfold runM at h6
    rw [if_pos (by rw [← dpAll_len h4]; exact h5)] at h6
    have fin : ∀ {v : V} {G' : Hp} {σ' : St} {H' : Hp} {e' : Ev} {r' : Rs}, Same G G' → Rz K (some p) H G G' e' σ' H' → ownC e' r' = some (r, c') → VrF K G' H H' v r' → Q v H' := fun {v G' σ' H' e' r'} s2 R' oc vf => by
      unfold ownC at oc
      split at oc
      · rename_i c2 rest
        cases oc
        obtain ⟨z1, z2⟩ := R'.z p rfl
        obtain ⟨p', w', a1, a2, a3, a4, a5⟩ := R'.r.ac 0 _ (rfl : (some (Sl.ac c') :: rest)[0]? = some (some (.ac c')))
        rw [z2] at a1
        cases a1
        exact hQ v G' H' w' s2 R'.r.gh (fun a o q ne => R'.r.eh a o q fun y => ne (Option.some.inj y).symm) a3 a4 R'.r.nw vf
      · cases oc
    split at h6
    · rename_i d e' h7
      exact kt (some p) H G G _ _ H _ _ Rz0 h7 fun v G' σ' H' s2 R' V' => fin s2 R' h6 V'
    · rename_i d e' h7
      refine kt (some p) H G G _ _ H _ _ Rz0 h7 fun v G' σ' H' s2 R' V' => fin s2 R' h6 ?_
      obtain ⟨p, ws, a1, a2, a3, a4, a5, _⟩ := V'
      exact ⟨p, ws, a1, a2, a3, a4, a5⟩
    · rename_i e' h7
      exact kt (some p) H G G _ _ H _ _ Rz0 h7 fun G' σ' H' s2 R' => fin (v := .non) s2 R' h6 .non
    · cases h6
end
end DL
namespace DL
open L2 PySem PySem.Spec PyProof.Rows

/-! ### slices with a step -/
def pickI (lo hi : Option Int) (c : Int) (n : Nat) : List Nat := sliceRange (sliceBounds lo hi (some c) n).1 (sliceBounds lo hi (some c) n).2.1 (sliceBounds lo hi (some c) n).2.2
def pickD {α : Type} (xs : List α) (lo hi : Option Int) (c : Int) : List α := (pickI lo hi c xs.length).filterMap (xs[·]?)
theorem pick_vals {xs : List V} {us : List Value} (r : Vals xs us) : ∀ (ks : List Nat), Vals (ks.filterMap (xs[·]?)) (ks.filterMap (us[·]?))
  | [] => .nil
  | k :: ks => by
    cases h : xs[k]? with
    | none =>
      have h2 : us[k]? = none := by
        have := r.length
        rw [List.getElem?_eq_none_iff] at h ⊢
        omega
      rw [List.filterMap_cons_none h, List.filterMap_cons_none h2]
      exact pick_vals r ks
    | some v =>
      obtain ⟨u, h2, h3⟩ := r.get h
      rw [List.filterMap_cons_some h, List.filterMap_cons_some h2]
      exact .cons h3 (pick_vals r ks)
theorem pick_dp {K : PySem.W.Frag} {G : Hp} {vs : List V} {ds : List PyData} (r : DpAll K G vs ds) : ∀ (ks : List Nat), DpAll K G (ks.filterMap (vs[·]?)) (ks.filterMap (ds[·]?))
  | [] => .nil
  | k :: ks => by
    cases h : ds[k]? with
    | none =>
      have h2 : vs[k]? = none := by
        have := dpAll_len r
        rw [List.getElem?_eq_none_iff] at h ⊢
        omega
      rw [List.filterMap_cons_none h, List.filterMap_cons_none h2]
      exact pick_dp r ks
    | some d =>
      obtain ⟨v, h2, h3⟩ := dpAll_get r h
      rw [List.filterMap_cons_some h, List.filterMap_cons_some h2]
      exact .cons h3 (pick_dp r ks)
theorem pick_arr (its : List Value) (lo hi : Option Int) (c : Int) : slicePick its.toArray lo hi (some c) = (pickD its lo hi c).toArray := by
  unfold slicePick pickD pickI
  rw [List.size_toArray]
  simp only [List.getElem?_toArray]
def tStp (K : PySem.W.Frag) (c : Int) (te : TE) (tl th : TO) (ts : TO) : TE := fun σ H Q => te σ H fun x H1 => tl σ H1 fun lo H2 => th σ H2 fun hi H3 => ts σ H3 fun o H4 => o = some c ∧ ∃ a xs, x = .ref a ∧ SqL K H4 a xs ∧ (pickD xs lo hi c).length ≤ sizeLine ∧ ∀ p, H4 p = none → Q (.ref p) (upd H4 p (.lst (pickD xs lo hi c)))
section
variable {X : Cx}
/-- e[..:..:..]: the parts are reckoned one by one, a slice is laid, and the rest goes on from there -/
def tSl (te : TE) (tl th ts : TO) (k : V → Option Int → Option Int → Option Int → Hp → Prop) (σ : St) (H : Hp) : Prop := te σ H fun x Ha => tl σ Ha fun lo Hb => th σ Hb fun hi Hc => ts σ Hc fun st Hd => k x lo hi st Hd
abbrev laidS (s : Shared) (l h t : Value) : Shared := { s with heap := s.heap.push { cls := .type "slice", data := .fields #[l, h, t] } }
theorem run_sl {e : Expr} {lo hi st : Option Expr} {te : TE} {tl th ts : TO} {p3 pos : Pos} {pins : List (Addr × Obj)} {s : Shared} {σ : St} {H : Hp} {Q : VK} {k : V → Option Int → Option Int → Option Int → Hp → Prop} (he : PE X e te) (hl : PO X lo tl) (hh : PO X hi th) (ht : PO X st ts) (I : Inv X pins σ H s) (h : tSl te tl th ts k σ H)
    (next : ∀ x v l vl u vu o vo (s' : Shared) (H' : Hp), RelV x v → IsPart vl l → IsPart vu u → IsPart vo o → Inv X pins σ H' (laidS s' vl vu vo) → k x l u o H' →
      wpAny (model X.prog X.w) X.A (subscriptTail e (.Slice lo hi st p3) v (.ref s'.heap.objs.size)) (EP X pins σ Q) X.xe (laidS s' vl vu vo)) :
    wpAny (model X.prog X.w) X.A (eval (.Subscript e (.Slice lo hi st p3) pos) X.env) (EP X pins σ Q) X.xe s :=
  Subscript_ (thn (he.run pins s σ H _ I h) fun v sa ⟨x, Ha, Ia, rx, qa⟩ => wpAny_Slice (thn (hl.run pins sa σ Ha _ Ia qa) fun vl sb ⟨l, Hb, Ib, rl, qb⟩ => thn (hh.run pins sb σ Hb _ Ib qb) fun vu sc ⟨u, Hc, Ic, ru, qc⟩ =>
    thn (ht.run pins sc σ Hc _ Ic qc) fun vo sd ⟨o, Hd, Id, ro, qd⟩ => next x v l vl u vu o vo sd Hd rx rl ru ro (Id.kept (t' := sd.toks) fun _ _ z => Heap.get?_push_of_some _ z) qd))
theorem pe_stp {e st : Expr} {lo hi : Option Expr} {te : TE} {tl th ts : TO} {c : Int} {p3 pos : Pos} (he : PE X e te) (hl : PO X lo tl) (hh : PO X hi th) (hst : PO X (some st) ts) (hc : some c ≠ some 0)
    (hg : ∀ a b, subscripted (.Slice lo hi (some st) p3) false a b = operate [a, b] (getItem a b) := by intros; with_unfolding_all rfl) : PE X (.Subscript e (.Slice lo hi (some st) p3) pos) (tStp X.K c te tl th ts) := by
  constructor
  intro pins s σ H Q I h
  refine run_sl he hl hh hst I h ?_
  rintro _ _ l vl u vu _ vo s' H' rx pl pu po J ⟨rfl, a, xs, rfl, hx, few, q⟩
  cases rx
  obtain ⟨us, vals, place, _⟩ := J.list hx
  have same := vals.length
  have out : Vals (pickD xs l u c) (pickD us l u c) := by
    unfold pickD
    rw [same]
    exact pick_vals vals _
  refine tail_any (ops := [.ref a, .ref s'.heap.objs.size]) place.isList.typeIs PySem.slot_list_getitem.lookup (wpAny_getItem_list_slice place.isList (Heap.IsSliceOf.new _ vl vu vo) pl pu po hc ?_ (by simp only [List.size_toArray]; omega)) (hg _ _)
  rw [pick_arr]
  exact ⟨.ref _, _, J.laid (t' := s'.toks) (o := .lst (pickD xs l u c)) (fun _ _ z => Heap.get?_push_of_some _ z) (Nat.le_refl _) ⟨few, _, 0, out, Heap.get?_push_size _ rfl⟩, rfl, q _ (J.hok.fresh (Nat.le_refl _))⟩
def x_stp (c : Int) (fa : Fe) (fl fh : Fo) : Fe := fun e => match fa e with
  | some (r, e1) => (match fl e1 with
    | some (lo, e2) => (match fh e2 with
      | some (hi, e3) => (match lookR e3 (frzR r) with
        | some (.list ds) => if okLen (pickD ds lo hi c).length = true then some (.ac (pickD ds lo hi c), e3) else none
        | _ => none)
      | none => none)
    | none => none)
  | none => none
theorem stp_ok {a : Expr} {fa : Fe} {fl fh : Fo} {t : TE} {t1 t2 ts : TO} {c : Int} (hs : ∀ σ H Q, Q (some c) H → ts σ H Q)
    (k : ∀ (m : Option Addr) (E G0 G : Hp) (e : Ev) (σ : St) (H : Hp) (r : Rs) (e' : Ev) (Q : VK), Rl X.K m E G0 G e σ H → fa e = some (r, e') → Po X.K m E G0 σ G H e r e' Q → t σ H Q)
    (k1 : ∀ (m : Option Addr) (E G0 G : Hp) (e : Ev) (σ : St) (H : Hp) (i : Option Int) (e' : Ev) (Q : Option Int → Hp → Prop),
    Rl X.K m E G0 G e σ H → fl e = some (i, e') → (∀ G' H', Rl X.K m E G0 G' e' σ H' → Stp σ G H e G' H' e' → Q i H') → t1 σ H Q)
    (k2 : ∀ (m : Option Addr) (E G0 G : Hp) (e : Ev) (σ : St) (H : Hp) (i : Option Int) (e' : Ev) (Q : Option Int → Hp → Prop),
    Rl X.K m E G0 G e σ H → fh e = some (i, e') → (∀ G' H', Rl X.K m E G0 G' e' σ H' → Stp σ G H e G' H' e' → Q i H') → t2 σ H Q)
    (m : Option Addr) (E G0 G : Hp) (e : Ev) (σ : St) (H : Hp) (r : Rs) (e' : Ev) (Q : VK) (R : Rl X.K m E G0 G e σ H) (q : x_stp c fa fl fh e = some (r, e')) (P : Po X.K m E G0 σ G H e r e' Q) : tStp X.K c t t1 t2 ts σ H Q := by
  unfold x_stp at q
  cases h1 : fa e with
  | none => simp only [h1] at q; cases q
  | some z =>
    obtain ⟨r0, e1⟩ := z
    simp only [h1] at q
    cases h2 : fl e1 with
    | none => simp only [h2] at q; cases q
    | some z =>
      obtain ⟨i, e2⟩ := z
      simp only [h2] at q
      cases h3 : fh e2 with
      | none => simp only [h3] at q; cases q
      | some z =>
        obtain ⟨j, e3⟩ := z
        simp only [h3] at q
        split at q
        · rename_i ds h4
          by_cases h5 : okLen (pickD ds i j c).length = true
          · rw [if_pos h5] at q
            cases q
            refine k m E G0 G e σ H r0 e1 _ R h1 fun v G1 H1 R1 S1 V1 N1 => ?_
            obtain ⟨G1', R1', S1', s1, V1'⟩ := R1.freeze S1 V1 N1
            refine k1 m E G0 G1' e1 σ H1 i e2 _ R1' h2 fun G2 H2 R2 S2 => ?_
            refine k2 m E G0 G2 e2 σ H2 j _ _ R2 h3 fun G3 H3 R3 S3 => ?_
            have L := R3.look ((V1'.stp S2).stp S3) h4
            have S := S1'.trans (S2.trans S3)
            obtain ⟨p', ws, ex, s2, dk⟩ := L.list R3.gh
            have dp : DpAll X.K G3 (pickD ws i j c) (pickD ds i j c) := by
              unfold pickD
              rw [dpAll_len dk]
              exact pick_dp dk _
            refine hs σ H3 _ ⟨rfl, p', ws, ex, s2, by rw [dpAll_len dp]; exact okLen_ok h5, fun p hp => ?_⟩
            obtain ⟨R', S', V', N'⟩ := R3.newL hp dp
            exact P _ _ _ R' (S.trans S') V' (nw_back S _ N')
          · rw [if_neg h5] at q
            cases q
        · cases q
/-- xs[lo:hi:c] of a list, c a written number above 0 -/
theorem ed_stp {a : Expr} {fa : Fe} {fl fh : Fo} {lo hi : Option Expr} {pos p1 p2 : Pos} {n : Nat} (c : Int) (ha : ED X a fa) (hl : OD X lo fl) (hh : OD X hi fh) (hc : some c ≠ some 0 := by decide) :
    ED X (.Subscript a (.Slice lo hi (some (.Constant (.int c) n p1)) p2) pos) (x_stp c fa fl fh) := by
  obtain ⟨t, p, k⟩ := ha
  obtain ⟨t1, q1, k1⟩ := hl
  obtain ⟨t2, q2, k2⟩ := hh
  exact ⟨_, pe_stp p q1 q2 (po_some pe_int) hc, stp_ok (a := a) (fun σ H Q z => ⟨c, rfl, z⟩) k k1 k2⟩
/-- .. below 0 -/
theorem ed_stpN {a : Expr} {fa : Fe} {fl fh : Fo} {lo hi : Option Expr} {pos p1 p2 p3 : Pos} {n : Nat} (c : Int) (ha : ED X a fa) (hl : OD X lo fl) (hh : OD X hi fh) (hc : some (-c) ≠ some 0 := by decide) :
    ED X (.Subscript a (.Slice lo hi (some (.UnaryOp .USub (.Constant (.int c) n p1) p3)) p2) pos) (x_stp (-c) fa fl fh) := by
  obtain ⟨t, p, k⟩ := ha
  obtain ⟨t1, q1, k1⟩ := hl
  obtain ⟨t2, q2, k2⟩ := hh
  exact ⟨_, pe_stp p q1 q2 (po_some (pe_un un_neg pe_int)) hc, stp_ok (a := a) (fun σ H Q z => ⟨c, rfl, -c, rfl, z⟩) k k1 k2⟩
end
end DL
namespace DL
open PySem PySem.Spec PySem.W PyProof.Rows L2 Calls

/-! ### tuples of ints, in order -/
def tI (k : List Int) : PyData := .tuple (k.map PyData.int)
def upT (ks : List (List Int)) : List (List Int) := ks.mergeSort fun p q => decide (p ≤ q)
def okT (ks : List (List Int)) : Bool := decide (ks.length ≤ 1) || ks.all fun k => !k.isEmpty
theorem upT_perm (ks : List (List Int)) : (upT ks).Perm ks := List.mergeSort_perm _ _
theorem upT_pw (ks : List (List Int)) : (upT ks).Pairwise (· ≤ ·) := by
  have z := List.pairwise_mergeSort (le := fun p q : List Int => decide (p ≤ q)) (fun a b c h1 h2 => by
    rw [decide_eq_true_eq] at h1 h2 ⊢
    exact List.le_trans h1 h2) (fun a b => by
    (rw [Bool.or_eq_true, decide_eq_true_eq, decide_eq_true_eq])
    exact List.le_total a b) ks
  exact z.imp fun h => of_decide_eq_true h
theorem upT_uniq {ks ms : List (List Int)} (h : ms.Perm ks) (k : ms.Pairwise (· ≤ ·)) : ms = upT ks :=
  List.Perm.eq_of_pairwise (le := (· ≤ ·)) (fun a b _ _ h1 h2 => List.le_antisymm h1 h2) k (upT_pw ks) (h.trans (upT_perm ks).symm)
theorem upT_congr {ks ms : List (List Int)} (h : ms.Perm ks) : upT ms = upT ks := upT_uniq ((upT_perm ms).trans h) (upT_pw ms)
theorem dataLe_tups : dataLe false tI = fun p q => decide (p ≤ q) := dataLe_rows fun k : List Int => k
theorem alike_tI (p q : List Int) : alike (tI p) (tI q) = true := alike_ints p q
theorem depth_tI (p : List Int) : (tI p).depth ≤ 1 := by
  show PyData.depthAll (p.map .int) + 1 ≤ 1
  rw [depth_ints]
  exact Nat.le_refl _
theorem okT_two {ks : List (List Int)} (h : okT ks = true) (h2 : ¬ ks.length ≤ 1) : Sortable (ks.map tI) := by
  unfold okT at h
  rw [Bool.or_eq_true, decide_eq_true_eq] at h
  rcases h with h | h
  · exact absurd h h2
  · refine .inl fun d hd => ?_
    obtain ⟨k, hk, rfl⟩ := List.mem_map.mp hd
    have z := List.all_eq_true.mp h k hk
    cases k with
    | nil => cases z
    | cons i k => exact ⟨.int i, k.map .int, rfl⟩
theorem perm_one {α : Type} {xs ys : List α} (p : xs.Perm ys) (h : ys.length ≤ 1) : xs = ys := by
  match ys, h with
  | [], _ => exact p.eq_nil
  | [y], _ => exact List.perm_singleton.mp p
theorem upT_one {ks : List (List Int)} (h : ks.length ≤ 1) : upT ks = ks := perm_one (upT_perm ks) h
section
variable {prog : Program} {w : World} {A : Around} {E : Value → Shared → Prop} {s : Shared} {vs : List Value} {ks : List (List Int)} {R : Value → List Int → Prop}
/-- one item or none: nothing is compared -/
theorem sort_few {a : Addr} {n : Nat} {P : PySem.Fin → Shared → Prop} (ho : s.heap.get? a = some (seqObj "list" vs.toArray n)) (h1 : vs.length ≤ 1) (h : P (.done (.ret .none)) { s with heap := sortedHeap s.heap a vs vs.toArray }) :
    wpAny (model prog w) A (Builtin.«list.sort» ⟨[(.ref a)], []⟩) P E s := by
  refine SK.plain_sort (r := fun _ => 0) ho (by omega) (fun h2 => by omega) fun ps out e1 e2 _ => ?_
  have e3 : out.toList = vs := by
    have z := e2.map Prod.snd
    rw [← e1, List.map_snd_zip (Nat.le_refl _)] at z
    exact perm_one z h1
  have e4 : out = vs.toArray := by rw [← e3]
  rw [e4]
  exact h
theorem sort_tlist {a : Addr} {n : Nat} {Q : Value → Shared → Prop} (ho : s.heap.get? a = some (seqObj "list" vs.toArray n)) (e : EachIs R vs ks) (er : EachIs (fun v k => ∃ as, Reads s.heap v (tI k) as ∧ a ∉ as) vs ks) (hk : okT ks = true) (hL : ks.length ≤ sizeLine) (hu : A.units + 3 < cLine)
    (h : ∀ out, EachIs R out (upT ks) → Q .none { s with heap := sortedHeap s.heap a vs (List.toArray out) }) : wpAny (model prog w) A (call (.builtin "list.sort") [.ref a]) Q E s := by
  by_cases h1 : ks.length ≤ 1
  · refine wpAny_call_entry slot_list_sort ⟨_, ho, rfl⟩ entry_list_sort (sort_few ho (by rw [e.length]; exact h1) ⟨_, rfl, h vs ?_⟩) (args_list_sort _)
    rw [upT_one h1]
    exact e
  · refine list_sort_data (enc := tI) ho e er (AllAlike.of alike_tI) (okT_two hk h1) hL (fun b _ => by have := depth_tI b; omega) fun out _ eo => h out ?_
    rw [dataLe_tups] at eo
    exact eo
theorem sorted_tlist {l : Addr} {Q : Value → Shared → Prop} (hl : s.heap.IsList l vs.toArray) (e : EachIs R vs ks) (er : EachIs (fun v k => ∃ as, Reads s.heap v (tI k) as) vs ks) (hk : okT ks = true) (hL : ks.length ≤ sizeLine) (hu : A.units + 4 < cLine)
    (h : ∀ out, EachIs R out (upT ks) → Q (.ref (s.heap.objs.size + 1)) { s with heap := sortedAll s.heap vs (List.toArray out) }) : wpAny (model prog w) A (call (.builtin "sorted") [.ref l]) Q E s := by
  by_cases h1 : ks.length ≤ 1
  · refine sorted_of_sort hl (by rw [e.length]; exact hL) (args_sorted1 _) (fun _ => args_list_sort _) fun _ => ?_
    refine sort_few (s := { s with heap := copyHeap s.heap vs }) (copyHeap_at s.heap vs) (by rw [e.length]; exact h1) ⟨rfl, h vs ?_⟩
    rw [upT_one h1]
    exact e
  · refine sorted_data (enc := tI) hl e er (AllAlike.of alike_tI) (okT_two hk h1) hL (fun b _ => by have := depth_tI b; omega) fun out _ eo => h out ?_
    rw [dataLe_tups] at eo
    exact eo
end
/-! what the items are -/
def IsK (K : PySem.W.Frag) (G : Hp) (v : Value) (k : List Int) : Prop := ∃ x, RelV x v ∧ Dp K G x (tI k)
theorem isK_all {K : PySem.W.Frag} {G : Hp} : ∀ {ws : List V} {us : List Value} {ks : List (List Int)}, DpAll K G ws (ks.map tI) → Vals ws us → EachIs (IsK K G) us ks
  | [], _, [], _, .nil => .nil
  | w :: ws, _, k :: ks, .cons h t, .cons r q => .cons ⟨w, r, h⟩ (isK_all t q)
  | [], _, _ :: _, h, _ => by cases h
  | _ :: _, _, [], h, _ => by cases h
theorem isK_back {K : PySem.W.Frag} {G : Hp} : ∀ {us : List Value} {ks : List (List Int)}, EachIs (IsK K G) us ks → ∃ ws, Vals ws us ∧ DpAll K G ws (ks.map tI)
  | _, _, .nil => ⟨[], .nil, .nil⟩
  | _, _, .cons h t => by
    obtain ⟨x, r, d⟩ := h
    obtain ⟨ws, r2, d2⟩ := isK_back t
    exact ⟨x :: ws, .cons r r2, .cons d d2⟩
theorem isK_reads {X : Cx} {pins : List (Addr × Obj)} {σ : St} {G H : Hp} {s : Shared} (I : Inv X pins σ H s) (sg : Same G H) {us : List Value} {ks : List (List Int)} (e : EachIs (IsK X.K G) us ks) : EachIs (fun v k => ∃ as, Reads s.heap v (tI k) as) us ks :=
  e.mono fun v k ⟨x, r, d⟩ => Dp.reads I _ x v (dp_same sg d) r
section
variable {X : Cx}
/-- sorted(xs), xs a list of tuples of ints -/
def rSortTL (K : PySem.W.Frag) : List V → Hp → VK → Prop := fun vs H Q => ∃ (G : Hp) (a : Addr) (ws : List V) (ks : List (List Int)), Same G H ∧ vs = [.ref a] ∧ SqL K H a ws ∧ DpAll K G ws (ks.map tI) ∧ okT ks = true ∧
  ∀ ys p, DpAll K G ys ((upT ks).map tI) → H p = none → Q (.ref p) (upd H p (.lst ys))
theorem cr_sortTL (hu : X.A.units + 64 < cLine) : CallR X (.builtin "sorted") (rSortTL X.K) := by
  (intro pins s σ H vs us Q I r h)
  obtain ⟨G, a, ws, ks, sg, rfl, hs, hd, ok, q⟩ := h
  (obtain ⟨its, rv, pl, hz⟩ := I.list hs)
  rw [Vals.ref1 r]
  have e := isK_all hd rv
  have hl : ks.length ≤ sizeLine := by
    rw [← e.length, ← rv.length]
    exact hz
  refine sorted_tlist pl.isList e (isK_reads I sg e) ok hl (by omega) fun out eo => ?_
  obtain ⟨ys, r2, d2⟩ := isK_back eo
  obtain ⟨c, hat⟩ := sortedAll_at s.heap its out.toArray
  have hl2 : ys.length ≤ sizeLine := by
    rw [dpAll_len d2, List.length_map, (upT_perm ks).length_eq]
    exact hl
  exact ⟨.ref _, upd H (s.heap.objs.size + 1) (.lst ys), I.laid (t' := s.toks) (fun _ _ => sortedAll_old) (Nat.le_succ _) ⟨hl2, out, c, r2, hat⟩, rfl, q ys _ d2 (I.hok.fresh (Nat.le_succ _))⟩
end
end DL
namespace DL
open L2 PySem PySem.Spec PyProof.Rows

/-! ### enumerate of a tuple -/
theorem enumNew1 {v : Value} {ob : Obj} {P : Heap → Prop} (B : Begins v ob P) :
    Meets (Builtin.«enumerate.__new__» ⟨[.type "enumerate", v], []⟩) fun _ R st => P st.heap ∧
      R (.ok (.ret (.ref (st.heap.push ob).objs.size))) { st with heap := (st.heap.push ob).push { cls := .type "enumerate", data := .fields #[.none, .bool false, .ref st.heap.objs.size, rawInt 0, .none, .none] } } :=
  .of_wp fun pr wo Ar R st z => by
    obtain ⟨he, ge, dr, to, oo⟩ := st
    obtain ⟨z1, z2⟩ := z
    have sb := sub_enumerate
    have it1 : ∀ {A' : Around} {E' : Value → Shared → Prop} {Q' : Value → Shared → Prop}, Q' (.ref he.objs.size) ⟨he.push ob, ge, dr, to, oo⟩ → wpAny (model pr wo) A' (pyIter v) Q' E' ⟨he, ge, dr, to, oo⟩ := fun y => B.iter pr wo _ _ ⟨he, ge, dr, to, oo⟩ _ z1 y
    wp_walk using it1
    refine wpAny_stack_any fun sk => wpAny_pure ?_
    split
    · rename_i cc _ _ _ _ _
      cases (cc == Value.type "enumerate") <;> (wp_walk using it1; exact ⟨_, rfl, z2⟩)
    · wp_walk using it1
      exact ⟨_, rfl, z2⟩
theorem enumCall1 {prog : Program} {w : World} {A : Around} {E : Value → Shared → Prop} {s : Shared} {v : Value} {ob : Obj} {P : Heap → Prop} {Q : Value → Shared → Prop} (B : Begins v ob P) (h1 : P s.heap)
    (h : ∀ g, IsEnum g (s.heap.objs.size + 1) s.heap.objs.size 0 .none → g.get? s.heap.objs.size = some ob → (∀ b u, s.heap.get? b = some u → g.get? b = some u) → Q (.ref (s.heap.objs.size + 1)) { s with heap := g }) :
    wpAny (model prog w) A (call (.type "enumerate") [v]) Q E s := by
  refine callType_new F.called_enumerate (by decide) (F.typeCall_enumerate_1 _) (F.newCall_enumerate_1 _) (fun x => F.args_object_init_2 x _) F.entry_enumerate_new (enumNew1 B) ⟨h1, ?_⟩
  have sz : (s.heap.push ob).objs.size = s.heap.objs.size + 1 := Heap.size_push ..
  have old : ∀ b u, s.heap.get? b = some u → ((s.heap.push ob).push { cls := .type "enumerate", data := .fields #[.none, .bool false, .ref s.heap.objs.size, rawInt 0, .none, .none] }).get? b = some u := fun b u y => Heap.get?_push_of_some _ (Heap.get?_push_of_some _ y)
  have en := Heap.get?_push_size (s.heap.push ob) (o := { cls := .type "enumerate", data := .fields #[.none, .bool false, .ref s.heap.objs.size, rawInt 0, .none, .none] }) rfl
  show _ ∧ _
  rw [sz] at en ⊢
  exact ⟨⟨_, en, rfl⟩, h _ en (Heap.get?_push_of_some _ (Heap.get?_push_size _ B.free)) old⟩
/-- the tuple at a, each item in a new pair -/
def ItE (K : PySem.W.Frag) (a : Addr) : It where
  go := fun i H => ∃ xs x, SqT K H a xs ∧ xs[i]? = some x
  yld := fun i H v H' => ∃ T x, v = .ref T ∧ H T = none ∧ H' = upd H T (.tup [.int (i : Nat), x]) ∧ ∀ xs, SqT K H a xs → xs[i]? = some x
  stop := fun i H => ∃ xs : List V, SqT K H a xs ∧ xs.length = i
theorem turn_enumT {P : Program} {w : World} {K : PySem.W.Frag} {elts : List Expr} {kk : Nat} {tpos : Pos} (a e it : Addr) :
    Turn P w K (.Tuple elts kk tpos) (ItE K a) [e, it] e fun i h => (∃ old, IsEnum h e it ((i : Nat) : Int) old) ∧ h.IsTupleIter it a i ∧ e ≠ it ∧ a ≠ it ∧ a ≠ e where
  mem := List.mem_cons_self
  obj := fun i h ⟨⟨old, z1⟩, ⟨o, z2, z3, z4⟩, _⟩ b hb => by
    rcases List.mem_cons.mp hb with y | y
    · subst y
      exact ⟨_, z1, fun v q => nomatch q⟩
    · rw [List.mem_singleton.mp y]
      exact ⟨o, z2, fun v q => by rw [z4] at q; cases q⟩
  keep := fun i h h' ⟨⟨old, z1⟩, z2, z3⟩ k => ⟨⟨old, k e List.mem_cons_self _ z1⟩, z2.at fun o q => k it (List.mem_cons_of_mem _ List.mem_cons_self) o q, z3⟩
  item := by
    intro X e1 e2 e3 hc i pins s σ H E I hf ⟨⟨old, z1⟩, z2, z3, z4, z5⟩ ⟨xs, x, hq, hx⟩
    subst e1 e2 e3
    obtain ⟨its, rv, tp, hz⟩ := I.tuple hq
    (obtain ⟨u, hu, ru⟩ := rv.get hx)
    have li : i < its.toArray.size := by
      rw [List.size_toArray]
      exact (List.getElem?_eq_some_iff.mp hu).1
    have le : e < s.heap.objs.size := Heap.lt_size z1
    have lt : it < s.heap.objs.size := by
      obtain ⟨_, q, _⟩ := z2
      exact Heap.lt_size q
    have D := Draws.tuple (prog := X.prog) (w := X.w) (A := X.A.in1) (by exact I.ok.hd hc) it a z4 its.toArray
    refine wpAny_pyNext_enum_itemD D z1 ⟨z2, tp⟩ li z3 (by
      intro m
      rcases List.mem_cons.mp m with y | y
      · exact z3 y
      · exact z5 (List.mem_singleton.mp y).symm) fun u2 g tk hu2 eo st gT gs gk => ?_
    have eu : u2 = u := by
      have y : its.toArray[i]? = some u2 := hu2
      rw [List.getElem?_toArray, hu] at y
      exact (Option.some.inj y).symm
    subst eu
    refine ⟨_, rfl, wpAny_letOwnedTupleGo_enum (s := { s with heap := g, toks := tk + 1 }) eo fun g2 eo2 sb => ?_⟩
    have nT : s.heap.objs.size ≠ e := Nat.ne_of_gt le
    have gT2 := (sb.2 _ nT).trans gT
    have new : ObjOk X.prog X.w (upd H s.heap.objs.size (.tup [.int (i : Nat), x])) g2 s.heap.objs.size (.tup [.int (i : Nat), x]) := ⟨by show 2 ≤ sizeLine; decide, [.int i tk, u2], .cons ⟨_, rfl⟩ (.cons ru .nil), ⟨_, gT2, rfl, _, rfl⟩⟩
    have out : ∀ {b : Addr}, b ∉ [e, it] → b ≠ e ∧ b ≠ it := fun {b} m => ⟨fun y => m (by rw [y]; exact List.mem_cons_self), fun y => m (by rw [y]; exact List.mem_cons_of_mem _ List.mem_cons_self)⟩
    have J := I.turnedNew (t' := tk + 1) (ch := [e, it]) (fun b ob m y => (sb.2 b (out m).1).trans (gk b ob (out m).1 (out m).2 y)) hf (Nat.le_refl _) new
    refine ⟨.ref s.heap.objs.size, _, J, rfl, ⟨_, x, rfl, I.hok.fresh (Nat.le_refl _), rfl, fun ys hy => by rw [I.tuple_inj hy hq]; exact hx⟩, ⟨⟨u2, ?_⟩, st.1.at fun o q => (sb.2 it z3.symm).trans q, z3, z4, z5⟩, fun b m => ?_⟩
    · rw [show (((i + 1 : Nat) : Nat) : Int) = (i : Int) + 1 by omega]
      exact eo2
    · have lb : b < s.heap.objs.size := by
        rcases List.mem_cons.mp m with y | y
        · rw [y]; exact le
        · rw [List.mem_singleton.mp y]; exact lt
      rw [upd_ne (Nat.ne_of_lt lb)]
      exact (hf b m).1
  done := by
    intro X e1 e2 e3 hc i pins s σ H E I hf ⟨⟨old, z1⟩, z2, z3, z4, z5⟩ ⟨xs, hq, hx⟩
    subst e1 e2 e3
    obtain ⟨its, rv, tp, hz⟩ := I.tuple hq
    have le : e < s.heap.objs.size := Heap.lt_size z1
    have D := Draws.tuple (prog := X.prog) (w := X.w) (A := X.A.in1) (by exact I.ok.hd hc) it a z4 its.toArray
    obtain ⟨f0, f1, f2, f3, f4, f5⟩ := hf it (List.mem_cons_of_mem _ List.mem_cons_self)
    have big : its.toArray.size = i := by
      rw [List.size_toArray, ← rv.length]
      exact hx
    rw [← big] at z2
    exact wpAny_pyNext_enum_endD D z1 ⟨z2, tp⟩ fun g eb => ⟨rfl, I.turned (t' := s.toks) (fun b o m y => eb b o m y) f0 f1 f3 f4 f5⟩
  self := fun A i s Q E ⟨⟨_, z⟩, _⟩ h => wpAny_pyIter_enum z h
def iEnumT (K : PySem.W.Frag) (ta : TA) : TI := fun σ H R => ta σ H fun vs H1 => ∃ a xs, vs = [.ref a] ∧ SqT K H1 a xs ∧ R (ItE K a) H1
theorem pi_enumT {X : Cx} {e : Expr} {ta : TA} {p pos tpos : Pos} {elts : List Expr} {kk : Nat} (hg : Gl X "enumerate") (hm : X.mg "enumerate" = none) (ha : PA X [e] ta) (hs : starEach [e] X.env = [(false, eval e X.env)] := by rfl) :
    PI X (.Tuple elts kk tpos) (.Call (.Name "enumerate" p) [e] [] pos) (iEnumT X.K ta) := by
  refine ⟨fun pins s σ H R I h => Call_ (ld_blt I hg hm boot_enumerate (callWith_type1 (thn (ha.run pos pins s σ H _ I h) fun us s1 z => ?_) hs rfl))⟩
  obtain ⟨vs, H1, I1, r1, a, xs, rfl, hq, q⟩ := z
  rw [Vals.ref1 r1]
  obtain ⟨its, rv, tp, hz⟩ := I1.tuple hq
  have la : a < s1.heap.objs.size := by
    obtain ⟨o, ho, _⟩ := tp
    exact Heap.lt_size ho
  refine enumCall1 (begins_tuple a its.toArray) tp fun g z1 z2 z3 => wpAny_pyIter_enum z1 ?_
  have nn : ∀ b ∈ [s1.heap.objs.size + 1, s1.heap.objs.size], s1.heap.objs.size ≤ b := fun b m => by
    rcases List.mem_cons.mp m with y | y
    · omega
    · rw [List.mem_singleton.mp y]
      exact Nat.le_refl _
  exact ⟨_, _, _, _, H1, rfl, I1.kept (t' := s1.toks) z3, turn_enumT a (s1.heap.objs.size + 1) s1.heap.objs.size, ⟨⟨.none, z1⟩, ⟨_, z2, rfl, rfl⟩, Nat.succ_ne_self _, Nat.ne_of_lt la, Nat.ne_of_lt (Nat.lt_succ_of_lt la)⟩, fun b m => I1.fpOk (nn b m) (I1.hok.fresh (nn b m)), q⟩
/-! as data -/
def enumD (ds : List PyData) : List PyData := (List.range ds.length).zipWith (fun (i : Nat) d => PyData.tuple [.int (i : Int), d]) ds
theorem enumD_at {ds : List PyData} {i : Nat} {d : PyData} (h : (enumD ds)[i]? = some d) : ∃ x, ds[i]? = some x ∧ d = .tuple [.int (i : Int), x] := by
  unfold enumD at h
  rw [List.getElem?_zipWith] at h
  cases z1 : (List.range ds.length)[i]? with
  | none => rw [z1] at h; cases h
  | some j =>
    cases z2 : ds[i]? with
    | none => rw [z1, z2] at h; cases h
    | some x =>
      rw [z1, z2] at h
      obtain ⟨y1, y2⟩ := List.getElem?_eq_some_iff.mp z1
      rw [List.getElem_range] at y2
      subst y2
      cases h
      exact ⟨x, rfl, rfl⟩
theorem enumD_len {ds : List PyData} : (enumD ds).length = ds.length := by
  unfold enumD
  rw [List.length_zipWith, List.length_range, Nat.min_self]
section
variable {K : PySem.W.Frag} {G0 : Hp} {a : Addr} {xs : List V} {ds : List PyData}
theorem walk_enumT (h : SqT K G0 a xs) (q : DpAll K G0 xs ds) : WalkD K G0 (ItE K a) (enumD ds) := by
  intro G H s1 s2
  have hq : SqT K H a xs := seqT (s1.trans s2) h
  refine ⟨fun i d e => ?_, xs, hq, by rw [enumD_len, dpAll_len q]⟩
  obtain ⟨x, e1, rfl⟩ := enumD_at e
  obtain ⟨v, e2, e3⟩ := dpAll_get q e1
  refine ⟨⟨xs, v, hq, e2⟩, fun u H2 ⟨T, y, z1, z2, z3, z4⟩ => .inr ⟨T, [.int (i : Nat), y], _, z1, z2, z3, rfl, ?_⟩⟩
  have z5 := z4 xs hq
  rw [e2] at z5
  cases z5
  exact .cons (.int _) (.cons (dp_same s1 e3) .nil)
theorem walk_enumL (h : SqL K G0 a xs) (q : DpAll K G0 xs ds) : WalkD K G0 (Ite K a) (enumD ds) := by
  intro G H s1 s2
  have hq : SqL K H a xs := (s1.trans s2).seq h
  refine ⟨fun i d e => ?_, xs, hq, by rw [enumD_len, dpAll_len q]; exact Nat.le_refl _⟩
  obtain ⟨x, e1, rfl⟩ := enumD_at e
  obtain ⟨v, e2, e3⟩ := dpAll_get q e1
  refine ⟨⟨xs, v, hq, e2⟩, fun u H2 ⟨T, y, z1, z2, z3, z4⟩ => .inr ⟨T, [.int (i : Nat), y], _, z1, z2, z3, rfl, ?_⟩⟩
  have z5 := z4 xs hq
  rw [e2] at z5
  cases z5
  exact .cons (.int _) (.cons (dp_same s1 e3) .nil)
end
def i_enum (f : Fe) : Fi := fun e => match i_seq f e with
  | some (ds, e1) => some (enumD ds, e1)
  | none => none
theorem id_enum {X : Cx} {a : Expr} {fa : Fe} {pos p tpos : Pos} {elts : List Expr} {kk : Nat} (ha : ED X a fa) (hm : X.mg "enumerate" = none) (hg : Gl X "enumerate" := by rfl) (hs : starEach [a] X.env = [(false, eval a X.env)] := by rfl) :
    ID X (.Tuple elts kk tpos) (.Call (.Name "enumerate" p) [a] [] pos) (i_enum fa) := by
  obtain ⟨t, pa, k⟩ := ha
  refine ⟨_, pi_or (pi_enum hg hm (pa_cons pa pa_nil hs) hs) (pi_enumT hg hm (pa_cons pa pa_nil hs) hs), fun m E G0 G e σ H ds e' Q R q P => ?_⟩
  unfold i_enum at q
  cases h1 : i_seq fa e with
  | none => rw [h1] at q; cases q
  | some z =>
    obtain ⟨ds0, e1⟩ := z
    rw [h1] at q
    cases q
    obtain ⟨r, q1, q2⟩ := i_seq_ok h1
    rcases q2 with q2 | q2
    · refine .inl (k m E G0 G e σ H r _ _ R q1 fun v G1 H1 R1 S1 V1 N1 => ?_)
      obtain ⟨G2, R2, S2, s2, V2⟩ := R1.freeze S1 V1 N1
      rw [q2] at V2
      have V3 : Dp X.K G2 v (.list ds0) := V2
      cases V3 with
      | lst h z => exact ⟨_, _, rfl, R2.gh.seq h, P _ _ _ R2 S2 (walk_enumL h z)⟩
    · refine .inr (k m E G0 G e σ H r _ _ R q1 fun v G1 H1 R1 S1 V1 N1 => ?_)
      obtain ⟨G2, R2, S2, s2, V2⟩ := R1.freeze S1 V1 N1
      rw [q2] at V2
      have V3 : Dp X.K G2 v (.tuple ds0) := V2
      cases V3 with
      | tup h z => exact ⟨_, _, rfl, seqT R2.gh h, P _ _ _ R2 S2 (walk_enumT h z)⟩
end DL
namespace DL
open PySem PySem.Spec PySem.W PyProof.Rows L2

/-! ### max, min of a tuple of ints too -/
theorem fold_maxI : ∀ (r : List Int) (a b : Int), r.foldl max (max a b) = max a (r.foldl max b)
  | [], _, _ => rfl
  | c :: r, a, b => by
    rw [List.foldl_cons, List.foldl_cons, show max (max a b) c = max a (max b c) by omega]
    exact fold_maxI r a (max b c)
theorem maxI_fold : ∀ (r : List Int) (a : Int), r.foldl max a = maxI (a :: r)
  | [], _ => rfl
  | b :: r, a => by
    rw [List.foldl_cons, fold_maxI, maxI_fold r b]
    rfl
theorem fold_minI : ∀ (r : List Int) (a b : Int), r.foldl min (min a b) = min a (r.foldl min b)
  | [], _, _ => rfl
  | c :: r, a, b => by
    rw [List.foldl_cons, List.foldl_cons, show min (min a b) c = min a (min b c) by omega]
    exact fold_minI r a (min b c)
theorem minI_fold : ∀ (r : List Int) (a : Int), r.foldl min a = minI (a :: r)
  | [], _ => rfl
  | b :: r, a => by
    rw [List.foldl_cons, fold_minI, minI_fold r b]
    rfl
theorem alikeAll_ints (ns : List Int) : AlikeAll (ns.map PyData.int) := by
  refine ⟨fun x hx y hy => ?_, fun x hx => ?_⟩
  · obtain ⟨i, _, rfl⟩ := List.mem_map.mp hx
    obtain ⟨j, _, rfl⟩ := List.mem_map.mp hy
    rfl
  · obtain ⟨i, _, rfl⟩ := List.mem_map.mp hx
    exact fun z => by cases z
section
variable {X : Cx}
def rMaxT (K : PySem.W.Frag) : List V → Hp → VK → Prop := fun vs H Q => ∃ (a : Addr) (n : Int) (ns : List Int), vs = [.ref a] ∧ SqT K H a ((n :: ns).map V.int) ∧ Q (.int (maxI (n :: ns))) H
def rMinT (K : PySem.W.Frag) : List V → Hp → VK → Prop := fun vs H Q => ∃ (a : Addr) (n : Int) (ns : List Int), vs = [.ref a] ∧ SqT K H a ((n :: ns).map V.int) ∧ Q (.int (minI (n :: ns))) H
theorem cr_maxT (hc : X.calm = true) (hu : X.A.units + 64 < cLine) : CallR X (.builtin "max") (rMaxT X.K) := by
  (intro pins s σ H vs us Q I r h)
  obtain ⟨a, n, ns, rfl, hs, q⟩ := h
  obtain ⟨its, rv, tp, hz⟩ := I.tuple hs
  rw [Vals.ref1 r]
  obtain ⟨as, hr⟩ := Dp.readsAll I _ _ its (dpAll_ints (n :: ns)) rv
  refine max_tuple_data (x := .int n) (xs := ns.map PyData.int) (as := as) (I.ok.hd hc) tp hr (alikeAll_ints (n :: ns)) (by
    have z := depth_ints (n :: ns)
    rw [List.map_cons] at z
    rw [z]
    omega) fun i v g tk bs _ rd hk => ?_
  rw [maxD_ints, maxI_fold] at rd
  cases rd with
  | int _ t => exact ⟨.int _, H, I.kept hk, ⟨t, rfl⟩, q⟩
theorem cr_minT (hc : X.calm = true) (hu : X.A.units + 64 < cLine) : CallR X (.builtin "min") (rMinT X.K) := by
  (intro pins s σ H vs us Q I r h)
  obtain ⟨a, n, ns, rfl, hs, q⟩ := h
  obtain ⟨its, rv, tp, hz⟩ := I.tuple hs
  rw [Vals.ref1 r]
  obtain ⟨as, hr⟩ := Dp.readsAll I _ _ its (dpAll_ints (n :: ns)) rv
  refine min_tuple_data (x := .int n) (xs := ns.map PyData.int) (as := as) (I.ok.hd hc) tp hr (alikeAll_ints (n :: ns)) (by
    have z := depth_ints (n :: ns)
    rw [List.map_cons] at z
    rw [z]
    omega) fun i v g tk bs _ rd hk => ?_
  rw [minD_ints, minI_fold] at rd
  cases rd with
  | int _ t => exact ⟨.int _, H, I.kept hk, ⟨t, rfl⟩, q⟩
end
def c_intsT (g : List Int → Option Rs) : List PyData → Option Rs
  | [.tuple ds] => (match unI ds with
    | some ns => g ns
    | none => none)
  | _ => none
theorem intsT_ok {g : List Int → Option Rs} {ds : List PyData} {r : Rs} (q : c_intsT g ds = some r) : ∃ ns, ds = [.tuple (ns.map PyData.int)] ∧ g ns = some r := by
  unfold c_intsT at q
  split at q
  · rename_i es
    split at q
    · rename_i ns h
      rw [unI_ok h]
      exact ⟨ns, rfl, q⟩
    · cases q
  · cases q
def c_maxT : List PyData → Option Rs := c_intsT fun ns => if ns.isEmpty = true then none else some (.im (.int (maxI ns)))
def c_minT : List PyData → Option Rs := c_intsT fun ns => if ns.isEmpty = true then none else some (.im (.int (minI ns)))
section
variable {K : PySem.W.Frag}
theorem lv_intsT {G H : Hp} {vs : List V} {ns : List Int} (s : Same G H) (l : LvAll K G H vs [.tuple (ns.map PyData.int)]) : ∃ p, vs = [.ref p] ∧ SqT K H p (ns.map V.int) := by
  obtain ⟨v, rfl, lv⟩ := lv1 l
  obtain ⟨p, ws, rfl, s1, k⟩ := lv.tup s
  rw [dp_ints k] at s1
  exact ⟨p, rfl, s1⟩
theorem vc_maxT : VC K (rMaxT K) c_maxT := by
  intro m E G0 G e σ H vs ds rr Q R l q P
  obtain ⟨ns, rfl, q2⟩ := intsT_ok q
  clear q
  obtain ⟨p, rfl, s1⟩ := lv_intsT R.gh l
  cases ns with
  | nil => cases q2
  | cons a r =>
    cases q2
    exact ⟨p, a, r, rfl, s1, P.now R (.int _) True.intro⟩
theorem vc_minT : VC K (rMinT K) c_minT := by
  intro m E G0 G e σ H vs ds rr Q R l q P
  obtain ⟨ns, rfl, q2⟩ := intsT_ok q
  clear q
  obtain ⟨p, rfl, s1⟩ := lv_intsT R.gh l
  cases ns with
  | nil => cases q2
  | cons a r =>
    cases q2
    exact ⟨p, a, r, rfl, s1, P.now R (.int _) True.intro⟩
end
def c_maxA : List PyData → Option Rs := orC c_max c_maxT
def c_minA : List PyData → Option Rs := orC c_min c_minT
theorem vc_maxA {K : PySem.W.Frag} : VC K (fun vs H Q => rMax K vs H Q ∨ rMaxT K vs H Q) c_maxA := VC.or vc_max vc_maxT
theorem vc_minA {K : PySem.W.Frag} : VC K (fun vs H Q => rMin K vs H Q ∨ rMinT K vs H Q) c_minA := VC.or vc_min vc_minT
theorem cr_maxA {X : Cx} (hc : X.calm = true) (hu : X.A.units + 64 < cLine) : CallR X (.builtin "max") (fun vs H Q => rMax X.K vs H Q ∨ rMaxT X.K vs H Q) := CallR.or (cr_max hc) (cr_maxT hc hu)
theorem cr_minA {X : Cx} (hc : X.calm = true) (hu : X.A.units + 64 < cLine) : CallR X (.builtin "min") (fun vs H Q => rMin X.K vs H Q ∨ rMinT X.K vs H Q) := CallR.or (cr_min hc) (cr_minT hc hu)

/-! ### sorted: ints, or tuples of ints -/
def unT : List PyData → Option (List (List Int))
  | [] => some []
  | .tuple d :: ds => (match unI d, unT ds with
    | some k, some ks => some (k :: ks)
    | _, _ => none)
  | _ :: _ => none
theorem unT_ok : ∀ {ds : List PyData} {ks : List (List Int)}, unT ds = some ks → ds = ks.map tI
  | [], ks, h => by
    cases h
    rfl
  | d :: ds, ks, h => by
    unfold unT at h
    split at h
    · rename_i z
      cases z
    · rename_i d0 ds0 z
      cases z
      split at h
      · rename_i k ks0 h1 h2
        cases h
        rw [unI_ok h1, unT_ok h2]
        rfl
      · cases h
    · cases h
theorem unT_map : ∀ (ks : List (List Int)), unT (ks.map tI) = some ks
  | [] => rfl
  | k :: ks => by
    have e : ∀ (k : List Int), unI (k.map PyData.int) = some k := by
      intro k
      induction k with
      | nil => rfl
      | cons i k ih =>
        show (unI (k.map PyData.int)).map (i :: ·) = _
        rw [ih]
        rfl
    show (match unI (k.map PyData.int), unT (ks.map tI) with
      | some k, some ks => some (k :: ks)
      | _, _ => none) = _
    rw [e, unT_map ks]
def c_sortedT : List PyData → Option Rs
  | [.list ds] => (match unT ds with
    | some ks => if okT ks = true then some (.ac ((upT ks).map tI)) else none
    | none => none)
  | _ => none
theorem vc_sortedT {K : PySem.W.Frag} : VC K (rSortTL K) c_sortedT := by
  intro m E G0 G e σ H vs ds rr Q R l q P
  unfold c_sortedT at q
  split at q
  · rename_i es
    split at q
    · rename_i ks h
      by_cases ok : okT ks = true
      · rw [if_pos ok] at q
        cases q
        rw [unT_ok h] at l
        obtain ⟨v, rfl, lv⟩ := lv1 l
        obtain ⟨p, ws, rfl, s1, k⟩ := lv.list R.gh
        refine ⟨G, p, ws, ks, R.gh, rfl, s1, k, ok, fun ys p2 d hp => ?_⟩
        obtain ⟨R', S', V', N'⟩ := R.newL hp d
        exact P _ _ _ R' S' V' N'
      · rw [if_neg ok] at q
        cases q
    · cases q
  · cases q
def c_sortedA : List PyData → Option Rs := orC c_sortedI c_sortedT
theorem vc_sortedA {K : PySem.W.Frag} : VC K (fun vs H Q => rSortedI K vs H Q ∨ rSortTL K vs H Q) c_sortedA := VC.or vc_sortedI vc_sortedT
theorem cr_sortedA {X : Cx} (hu : X.A.units + 64 < cLine) : CallR X (.builtin "sorted") (fun vs H Q => rSortedI X.K vs H Q ∨ rSortTL X.K vs H Q) := CallR.or cr_sortedI (cr_sortTL hu)

/-! ### list(range(..)), tuple(range(..)) -/
def rgOkB (a b : Int) : Bool := decide (-(2 ^ 62) ≤ a) && (decide (a < 2 ^ 62) && (decide (-(2 ^ 62) ≤ b) && (decide (b < 2 ^ 62) && decide ((b - a).toNat ≤ 2 ^ 24))))
theorem rgOkB_ok {a b : Int} (h : rgOkB a b = true) : RgOk a b := by
  unfold rgOkB at h
  (simp only [Bool.and_eq_true, decide_eq_true_eq] at h)
  exact h
def rgL (a b : Int) : List PyData := (List.range (b - a).toNat).map fun (j : Nat) => PyData.int (a + (j : Int))
theorem rgV_dp {K : PySem.W.Frag} {G : Hp} (a b : Int) : DpAll K G (rgV a b) (rgL a b) := by
  unfold rgV rgL
  induction (List.range (b - a).toNat) with
  | nil => exact .nil
  | cons i r ih => exact .cons (.int _) ih
abbrev Fg := Ev → Option (Int × Int × Ev)
def g_rg1 (fa : Fe) : Fg := fun e => match fa e with
  | some (.im (.int b), e1) => some (0, b, e1)
  | _ => none
def g_rg2 (fa fb : Fe) : Fg := fun e => match fa e with
  | some (.im (.int a), e1) => (match fb e1 with
    | some (.im (.int b), e2) => some (a, b, e2)
    | _ => none)
  | _ => none
structure RgD (X : Cx) (x : Expr) (f : Fg) : Prop where
  ex : ∃ t, PRg X x t ∧ ∀ (m : Option Addr) (E G0 G : Hp) (e : Ev) (σ : St) (H : Hp) (a b : Int) (e' : Ev) (Q : Int → Int → Hp → Prop),
    Rl X.K m E G0 G e σ H → f e = some (a, b, e') → (∀ G' H', Rl X.K m E G0 G' e' σ H' → Stp σ G H e G' H' e' → Q a b H') → t σ H Q
section
variable {X : Cx} {a b : Expr} {fa fb : Fe} {p pos : Pos}
theorem rgd1 (ha : ED X a fa) (hm : X.mg "range" = none) (hg : Gl X "range" := by rfl) (na : starEach [a] X.env = (false, eval a X.env) :: starEach [] X.env := by rfl) : RgD X (.Call (.Name "range" p) [a] [] pos) (g_rg1 fa) := by
  obtain ⟨t, pa, k⟩ := ha
  refine ⟨_, prg_1 hg hm pa na, fun m E G0 G e σ H i j e' Q R q P => ?_⟩
  unfold g_rg1 at q
  split at q
  · rename_i b e1 h1
    cases q
    refine k m E G0 G e σ H _ _ _ R h1 fun v G1 H1 R1 S1 V1 _ => ?_
    cases V1
    exact ⟨_, rfl, P _ _ R1 S1⟩
  · cases q
theorem rgd2 (ha : ED X a fa) (hb : ED X b fb) (hm : X.mg "range" = none) (hg : Gl X "range" := by rfl) (na : starEach [a, b] X.env = (false, eval a X.env) :: starEach [b] X.env := by rfl) (nb : starEach [b] X.env = (false, eval b X.env) :: starEach [] X.env := by rfl)
    (hp : (backTo pos (starEach [b] X.env)).any (·.1) = false := by rfl) : RgD X (.Call (.Name "range" p) [a, b] [] pos) (g_rg2 fa fb) := by
  obtain ⟨t, pa, k⟩ := ha
  obtain ⟨t2, pb, k2⟩ := hb
  refine ⟨_, prg_2 hg hm pa pb na nb hp, fun m E G0 G e σ H i j e' Q R q P => ?_⟩
  unfold g_rg2 at q
  split at q
  · rename_i a1 e1 h1
    split at q
    · rename_i b1 e2 h2
      cases q
      refine k m E G0 G e σ H _ _ _ R h1 fun v G1 H1 R1 S1 V1 _ => ?_
      cases V1
      refine k2 m E G0 G1 e1 σ H1 _ _ _ R1 h2 fun v G2 H2 R2 S2 V2 _ => ?_
      cases V2
      exact ⟨_, _, rfl, rfl, P _ _ R2 (S1.trans S2)⟩
    · cases q
  · cases q
def x_lrg (f : Fg) : Fe := fun e => match f e with
  | some (a, b, e1) => if rgOkB a b = true then some (.ac (rgL a b), e1) else none
  | none => none
def x_trg (f : Fg) : Fe := fun e => match f e with
  | some (a, b, e1) => if rgOkB a b = true then some (.im (.tuple (rgL a b)), e1) else none
  | none => none
theorem ed_lrg {f : Fg} (h : RgD X a f) (hc : X.calm = true) (hm : X.mg "list" = none) (hg : Gl X "list" := by rfl) (na : starEach [a] X.env = (false, eval a X.env) :: starEach [] X.env := by rfl) : ED X (.Call (.Name "list" p) [a] [] pos) (x_lrg f) := by
  obtain ⟨t, pr, k⟩ := h
  refine ⟨_, pe_listRg hc hg hm pr na, fun m E G0 G e σ H r e' Q R q P => ?_⟩
  unfold x_lrg at q
  split at q
  · rename_i i j e1 h1
    by_cases z : rgOkB i j = true
    · rw [if_pos z] at q
      cases q
      refine k m E G0 G e σ H i j _ _ R h1 fun G1 H1 R1 S1 => ⟨rgOkB_ok z, fun l hl => ?_⟩
      obtain ⟨R', S', V', N'⟩ := R1.newL hl (rgV_dp (K := X.K) (G := G1) i j)
      exact P _ _ _ R' (S1.trans S') V' (nw_back S1 _ N')
    · rw [if_neg z] at q
      cases q
  · cases q
theorem ed_trg {f : Fg} (h : RgD X a f) (hc : X.calm = true) (hm : X.mg "tuple" = none) (hg : Gl X "tuple" := by rfl) (na : starEach [a] X.env = (false, eval a X.env) :: starEach [] X.env := by rfl) : ED X (.Call (.Name "tuple" p) [a] [] pos) (x_trg f) := by
  obtain ⟨t, pr, k⟩ := h
  refine ⟨_, pe_tupRg hc hg hm pr na, fun m E G0 G e σ H r e' Q R q P => ?_⟩
  unfold x_trg at q
  split at q
  · rename_i i j e1 h1
    by_cases z : rgOkB i j = true
    · rw [if_pos z] at q
      cases q
      refine k m E G0 G e σ H i j _ _ R h1 fun G1 H1 R1 S1 => ⟨rgOkB_ok z, fun l hl => ?_⟩
      obtain ⟨R', S', V'⟩ := R1.newT hl (rgV_dp (K := X.K) (G := G1) i j)
      exact P _ _ _ R' (S1.trans S') V' True.intro
    · rw [if_neg z] at q
      cases q
  · cases q
end
end DL
namespace DL
open PySem PySem.Spec PySem.W PyProof.Rows L2 Calls

/-! ### set(xs), xs a list of tuples of ints, few of them distinct -/
abbrev AK := List (Addr × List Int)
/-- no more than 62 distinct ones -/
def FewK (ks : List (List Int)) : Prop := ∃ D : List (List Int), D.length < 63 ∧ ∀ k ∈ ks, k ∈ D
theorem nodup_le {α : Type} [DecidableEq α] : ∀ (l D : List α), l.Nodup → (∀ x ∈ l, x ∈ D) → l.length ≤ D.length
  | [], D, _, _ => Nat.zero_le _
  | x :: l, D, n, h => by
    obtain ⟨n1, n2⟩ := List.nodup_cons.mp n
    have m := h x List.mem_cons_self
    have r := nodup_le l (D.erase x) n2 fun y hy => (List.mem_erase_of_ne fun e => n1 (by rw [← e]; exact hy)).mpr (h y (List.mem_cons_of_mem _ hy))
    have e := List.length_erase_of_mem m
    have p := List.length_pos_of_mem m
    show l.length + 1 ≤ D.length
    omega
section
variable {P : Program} {w : World} {A : Around} {E : Value → Shared → Prop} {I S : Addr} {fp wr : List Addr} {G : Array GenState → Array GenState → Prop} {Pv : Nat → Value → Prop} {St : Nat → Shared → Prop} {g0 : Heap} {ks : AK}
/-- what stands while the set at S is filled -/
def Fill (P : Program) (w : World) (S : Addr) (g0 : Heap) (ks : AK) (i : Nat) (g : Heap) : Prop := (∀ b o, g0.get? b = some o → g.get? b = some o) ∧ ∃ L es ep t, SetTR P w g S L es ep t ∧ Got ks i L
theorem Fill.move {g : Heap} {i : Nat} {g' : Heap} (F : Fill P w S g0 ks i g) (isT : ∀ p ∈ ks, IsT P w g0 p.2 p.1) (nw : ∀ b ∈ wr, g0.get? b = none) (nS : S ∉ wr) (mv : ∀ b o, b ∉ wr → g.get? b = some o → g'.get? b = some o) : Fill P w S g0 ks i g' := by
  obtain ⟨f1, L, es, ep, t, f2, f3⟩ := F
  have f4 : ∀ b o, g0.get? b = some o → g'.get? b = some o := fun b o y => mv b o (fun m => by rw [nw b m] at y; cases y) (f1 b o y)
  exact ⟨f4, L, es, ep, t, f2.keep (fun o y => mv S o nS y) fun p m => isT_keep (isT p (List.mem_of_mem_take (f3.sub p m))) f4, f3⟩
theorem fill_all (W : WalksS P w A.in1 I fp wr G ks.length Pv St) (nfp : S ∉ fp) (few : FewK (ks.map (·.2))) (at_ : ∀ i v, Pv i v → ∃ p, ks[i]? = some p ∧ v = .ref p.1) (isT : ∀ p ∈ ks, IsT P w g0 p.2 p.1) (S0 : g0.get? S = none) (nw : ∀ b ∈ wr, g0.get? b = none) (hu : A.in1.units < cLine)
    {R : Result → Shared → Prop} : ∀ (left i : Nat) (s : Shared), i + left = ks.length → St i s → Fill P w S g0 ks i s.heap → (∀ s', Moved (S :: wr) G s s' → Fill P w S g0 ks ks.length s'.heap → R (.ok (.ret .none)) s') → codeAny (model P w) A (.builtin "set.update.loop" ⟨[.ref S, .ref I], []⟩) R s := by
  have nS : S ∉ wr := fun m => nfp (W.sub _ m)
  have op := F.entry_set_update_loop
  have pl := F.plain_set_update_loop
  intro left
  induction left with
  | zero =>
    intro i s hi st FF k
    have hi : i = ks.length := by omega
    subst hi
    refine codeAny_builtin op ?_
    rw [Around.under_plainId pl]
    exact wpAny_bind (W.done s _ _ st fun s' mv => wpAny_pure (k s' (mv.mono fun b m => List.mem_cons_of_mem _ m) (FF.move isT nw nS mv.heap)))
  | succ left ih =>
    intro i s hi st FF k
    have li : i < ks.length := by omega
    refine codeAny_builtin op ?_
    rw [Around.under_plainId pl]
    refine wpAny_bind (W.item i s _ _ li st fun v s1 pv st1 mv => ?_)
    obtain ⟨⟨x, key⟩, atx, rfl⟩ := at_ i v pv
    obtain ⟨f1, L, es, ep, t, f2, f3⟩ := FF.move isT nw nS mv.heap
    have isX : IsT P w s1.heap key x := isT_keep (isT _ (List.mem_of_getElem? atx)) f1
    have room : L.length + 1 < 64 := by
      obtain ⟨D, d1, d2⟩ := few
      have z := nodup_le (L.map (·.2)) D f2.nd fun kk m => by
        obtain ⟨p, pm, rfl⟩ := List.mem_map.mp m
        exact d2 _ (List.mem_map.mpr ⟨p, List.mem_of_mem_take (f3.sub p pm), rfl⟩)
      rw [List.length_map] at z
      omega
    refine wpAny_bind (wpAny_holding (wpAny_holding (wpAny_bind (wpAny_pyHash_tuple hu isX ?_))))
    refine add_at (s := { s1 with toks := s1.toks + (key.length + 1) }) f2 isX hu room fun b g2 L2 es2 ep2 t2 sb r2 c1 c2 => wpAny_pure ⟨plainId_quiet pl _, ?_⟩
    have got : Got ks (i + 1) L2 := by
      by_cases c : key ∈ L.map (·.2)
      · rw [c1 c]
        exact f3.same atx c
      · exact f3.more atx (c2 c)
    have f4 : ∀ b o, g0.get? b = some o → g2.get? b = some o := fun b o y => (sb.2 b fun z => by rw [z, S0] at y; cases y).trans (f1 b o y)
    refine ih (i + 1) _ (by omega) (W.frame _ s1 _ _ st1 (Nat.le_add_right _ _) fun b m o y => (sb.2 b fun z => nfp (by rw [← z]; exact m)).trans y) ⟨f4, L2, es2, ep2, t2, r2, got⟩ fun s3 mv3 F3 => k s3 ?_ F3
    exact Moved.trans W.gtrans ((mv.mono fun b m => List.mem_cons_of_mem _ m).then_heap (Nat.le_add_right _ _) fun b o m y => (sb.2 b fun z => m (by rw [z]; exact List.mem_cons_self)).trans y) mv3
end
/-- the filling -/
theorem setF_init {P : Program} {w : World} {A : Around} {E : Value → Shared → Prop} {s : Shared} {l S : Addr} {its : List Value} {ks : AK} {g0 : Heap} {R : Value → Shared → Prop} (hh : A.handled = none) (hl : s.heap.IsList l its.toArray) (ei : its = ks.map fun p => Value.ref p.1)
    (hS : s.heap.get? S = some { cls := .type "set", dict := none, data := .set #[] 0 (.fresh 0 0 (!w.params.followText "set-order")) }) (isT : ∀ p ∈ ks, IsT P w g0 p.2 p.1) (few : FewK (ks.map (·.2))) (hu : A.in1.in1.units < cLine) (k0 : ∀ b o, g0.get? b = some o → s.heap.get? b = some o) (S0 : g0.get? S = none) (lS : l ≠ S)
    (k : ∀ g tk L es ep t, SetTR P w g S L es ep t → Got ks ks.length L → (∀ b o, g0.get? b = some o → g.get? b = some o) → R .none { s with heap := g, toks := tk }) : codeAny (model P w) A (.call (.builtin "set.__init__") ⟨[.ref S, .ref l], []⟩) (wants R E) s := by
  have tyS : s.TypeIs (.ref S) "set" := ⟨_, hS, rfl⟩
  refine codeAny_call_builtin (R := wants R E) F.called_set.init.plain F.entry_set_init (check_set_init_1 tyS ?_)
  have hl0 := hl
  obtain ⟨⟨c1, c2, c3, c4⟩, c5, c6, c7, c8⟩ := hl
  simp only at c6 c8
  subst c6 c8
  have t1 := F.sub_list_set
  have t2 := F.sub_list_frozenset
  have t3 : (Value.type "dict" == Value.type "list") = false := by decide
  have t4 : (Value.type "list" == .type "dict") = false := by decide
  have lt1 : l < s.heap.objs.size := Heap.lt_size c5
  have lt2 : S < s.heap.objs.size := Heap.lt_size hS
  unfold Builtin.«set.__init__»
  unfold noKeywords Builtin.Frozenset.updateFrom
  generalize ePI : pyIter = PI
  wp_walk
  subst ePI
  refine wpAny_pyIter_list hl0 (wpAny_bind (wpAny_runValue ?_))
  have hh3 : A.in1.in1.handled = none := hh
  have at_ : ∀ (i : Nat) (v : Value), its.toArray[i]? = some v → ∃ p, ks[i]? = some p ∧ v = .ref p.1 := fun i v y => by
    have y2 : its[i]? = some v := by simpa using y
    rw [ei, List.getElem?_map] at y2
    cases z : ks[i]? with
    | none => rw [z] at y2; cases y2
    | some p => rw [z] at y2; exact ⟨p, rfl, (Option.some.inj y2).symm⟩
  have szk : its.toArray.size = ks.length := by rw [List.size_toArray, ei, List.length_map]
  have I0 : g0.get? s.heap.objs.size = none := by
    cases z : g0.get? s.heap.objs.size with
    | none => rfl
    | some o => exact absurd (Heap.lt_size (k0 _ _ z)) (Nat.lt_irrefl _)
  have W := (Walks.list (prog := P) (w := w) hh3 s.heap.objs.size l (Nat.ne_of_lt lt1) its.toArray).toS
  rw [szk] at W
  have nS : S ∉ [s.heap.objs.size, l] := fun m => by
    rcases List.mem_cons.mp m with y | y
    · exact absurd y (Nat.ne_of_lt lt2)
    · exact lS (List.mem_singleton.mp y).symm
  have nw : ∀ b ∈ [s.heap.objs.size], g0.get? b = none := fun b m => by rw [List.mem_singleton.mp m]; exact I0
  have hf := Heap.get?_push_of_some ({ cls := .type "list_iterator", data := .fields #[.ref l, .int 0 0] } : Obj) hS
  refine fill_all W nS few at_ isT S0 nw hu ks.length 0 _ (Nat.zero_add _) ?_ ?_ fun s3 mv F3 => ?_
  · exact ⟨⟨_, Heap.get?_push_size _ rfl, rfl, rfl⟩, hl0.push _⟩
  · exact ⟨fun b o y => Heap.get?_push_of_some _ (k0 b o y), [], #[], 0, _, setTR_fresh hf, Got.zero ks⟩
  obtain ⟨f1, L, es, ep, t, f2, f3⟩ := F3
  obtain ⟨g3, gn3, d3, tk3, o3⟩ := s3
  obtain rfl : gn3 = s.gens := mv.gens
  obtain rfl : d3 = s.drawn := mv.drawn
  obtain rfl : o3 = s.os := mv.os
  exact wpAny_pure (show wpAny _ _ (ret Value.none) _ _ _ from wpAny_pure (k g3 tk3 L es ep t f2 f3 f1))
/-- the call -/
theorem setF_call {P : Program} {w : World} {A : Around} {E : Value → Shared → Prop} {s : Shared} {l : Addr} {its : List Value} {ks : AK} {Q : Value → Shared → Prop} (hh : A.handled = none) (hl : s.heap.IsList l its.toArray) (ei : its = ks.map fun p => Value.ref p.1) (isT : ∀ p ∈ ks, IsT P w s.heap p.2 p.1) (few : FewK (ks.map (·.2))) (hu : A.units + 3 < cLine)
    (h : ∀ g tk L es ep t, SetTR P w g s.heap.objs.size L es ep t → Got ks ks.length L → (∀ b o, s.heap.get? b = some o → g.get? b = some o) → Q (.ref s.heap.objs.size) { s with heap := g, toks := tk }) : wpAny (model P w) A (call (.type "set") [.ref l]) Q E s := by
  obtain ⟨c, tl, m0⟩ := F.called_set.mro
  have m1 := F.called_set.made
  have m2 := F.called_set.sub
  have m3 := F.called_set.notType
  have m4 := F.called_set.canCreate
  have m5 := F.typeCall_set_1 (.ref l)
  have sz := s.heap.objs.size
  refine wpAny_call (codeAny_of_tree (show wpAny _ _ (callAny (.type "set") _) _ _ _ from wpAny_pure ⟨Code.quiet_builtin _ (by decide +kernel), codeAny_builtin F.entry_type_call ?_⟩))
  rw [Around.under_plain (weight_type_call_type "set" _ []) rfl]
  repeat any_goals first | assumption | wp_step
  generalize eN : s.heap.push { cls := .type "set", dict := none, data := .set #[] 0 (.fresh 0 0 (!w.params.followText "set-order")) } = N
  refine codeAny_mono (code_set_led1 (.ref l) (E := E) (Q₁ := fun o s1 => o = .ref s.heap.objs.size ∧ s1 = { s with heap := N }) ⟨rfl, by rw [eN]⟩) fun r s1 hr => ?_
  rcases r with er | fl
  · exact hr
  rcases fl with _ | _ | _ | ob
  · exact hr.elim
  · exact hr.elim
  · exact hr.elim
  obtain ⟨rfl, rfl⟩ := hr
  have atS : N.get? s.heap.objs.size = some { cls := .type "set", dict := none, data := .set #[] 0 (.fresh 0 0 (!w.params.followText "set-order")) } := by rw [← eN]; exact Heap.get?_push_size _ rfl
  have keepN : ∀ b o, s.heap.get? b = some o → N.get? b = some o := fun b o y => by rw [← eN]; exact Heap.get?_push_of_some _ y
  have szN : N.objs.size = s.heap.objs.size + 1 := by rw [← eN]; exact Heap.size_push ..
  have tyS : Shared.TypeIs { s with heap := N } (.ref s.heap.objs.size) "set" := ⟨_, atS, rfl⟩
  have n1 := F.called_set.init.lookup
  have n2 := F.called_set.init.bind (.ref s.heap.objs.size)
  repeat any_goals first | assumption | wp_step
  have hlN : N.IsList l its.toArray := hl.at fun o y => keepN l o y
  have S0 : s.heap.get? s.heap.objs.size = none := by
    cases z : s.heap.get? s.heap.objs.size with
    | none => rfl
    | some o => exact absurd (Heap.lt_size z) (Nat.lt_irrefl _)
  have lS : ¬ l = s.heap.objs.size := by
    obtain ⟨o, y, _⟩ := hl
    exact Nat.ne_of_lt (Heap.lt_size y)
  refine codeAny_mono (setF_init (P := P) (w := w) (A := A.in1) (E := E) (s := { s with heap := N }) (R := fun v s2 => v = .none ∧ ∃ g tk L es ep t, s2 = { s with heap := g, toks := tk } ∧ SetTR P w g s.heap.objs.size L es ep t ∧ Got ks ks.length L ∧ ∀ b o, s.heap.get? b = some o → g.get? b = some o)
    hh hlN ei atS isT few hu keepN S0 lS fun g tk L es ep t f1 f2 f3 => ⟨rfl, g, tk, L, es, ep, t, rfl, f1, f2, f3⟩) fun r2 s2 hr2 => ?_
  rcases r2 with er | fl
  · exact hr2
  rcases fl with _ | _ | _ | ob
  · exact hr2.elim
  · exact hr2.elim
  · exact hr2.elim
  obtain ⟨rfl, g, tk, L, es, ep, t, rfl, f1, f2, f3⟩ := hr2
  repeat any_goals first | assumption | wp_step
  exact h g tk L es ep t f1 f2 f3
end DL
namespace DL
open PySem PySem.Spec PySem.W PyProof.Rows L2 Calls

/-! ### sorted(set(xs)) -/
theorem perm_map_inv {α β : Type} {f : α → β} {us ws : List β} (p : us.Perm ws) : ∀ {L : List α}, ws = L.map f → ∃ L' : List α, L'.Perm L ∧ us = L'.map f := by
  induction p with
  | nil =>
    intro L e
    exact ⟨L, .refl _, e⟩
  | cons x p ih =>
    intro L e
    cases L with
    | nil => cases e
    | cons y L =>
      rw [List.map_cons] at e
      injection e with e1 e2
      obtain ⟨L', q1, q2⟩ := ih e2
      exact ⟨y :: L', q1.cons y, by rw [List.map_cons, ← e1, q2]⟩
  | swap x y l =>
    intro L e
    match L, e with
    | a :: b :: L, e =>
      (rw [List.map_cons, List.map_cons] at e)
      injection e with e1 e2
      injection e2 with e2 e3
      exact ⟨b :: a :: L, .swap a b L, by rw [List.map_cons, List.map_cons, e1, e2, e3]⟩
    | [], e => cases e
    | [a], e => cases e
  | trans p q ih1 ih2 =>
    intro L e
    obtain ⟨L1, q1, q2⟩ := ih2 e
    obtain ⟨L2, q3, q4⟩ := ih1 q2
    exact ⟨L2, q3.trans q1, q4⟩
def FromL (L : AK) (v : Value) (k : List Int) : Prop := ∃ q ∈ L, v = .ref q.1 ∧ q.2 = k
theorem fromL_all {L : AK} : ∀ {L' : AK}, (∀ q ∈ L', q ∈ L) → EachIs (FromL L) (L'.map fun q => Value.ref q.1) (L'.map (·.2))
  | [], _ => .nil
  | q :: L', h => .cons ⟨q, h q List.mem_cons_self, rfl, rfl⟩ (fromL_all fun r m => h r (List.mem_cons_of_mem _ m))
theorem isT_reads {P : Program} {w : World} {h : Heap} {k : List Int} {a : Addr} (x : IsT P w h k a) : Reads h (.ref a) (tI k) [] := by
  obtain ⟨b, its, e, ⟨o, ho, hc, n, hd⟩, hi⟩ := tupInts_of x
  cases e
  have r : ∀ {vs : List Value} {ns : List Int}, IntsAre vs ns → ReadsAll h vs (ns.map PyData.int) [] := by
    intro vs ns hi
    induction hi with
    | nil => exact .nil
    | cons i t _ ih => exact .cons (.int i t) ih
  exact Reads.tuple ho hc hd (r hi)
theorem sortF_call {P : Program} {w : World} {A : Around} {E : Value → Shared → Prop} {s : Shared} {a : Addr} {L : AK} {es : Array (Int × Value)} {ep : Nat} {t : SetTable} {Q : Value → Shared → Prop} (R : SetTR P w s.heap a L es ep t) (hh : A.handled = none) (ok : okT (L.map (·.2)) = true) (hu : A.units + 5 < cLine)
    (h : ∀ s' p out c, (∀ b o, s.heap.get? b = some o → s'.heap.get? b = some o) → s'.gens = s.gens → s'.os = s.os → s.heap.objs.size ≤ p → s'.heap.get? p = some (seqObj "list" (List.toArray out) c) → EachIs (FromL L) out (upT (L.map (·.2))) → Q (.ref p) s') :
    wpAny (model P w) A (call (.builtin "sorted") [(.ref a)]) Q E s := by
  (obtain ⟨o, ho, hex, hd⟩ := R.ob)
  have few := R.few
  have szR := R.size
  refine Calls.call_function_entry kind_sorted plain_sorted entry_sorted (args_sorted1 _) (show wpAny _ A.in1 (Builtin.«sorted» _) _ _ s from ?_)
  unfold Builtin.«sorted»
  refine wpAny_bind (m := checkCount "sorted" 1 1 _) (wpAny_pure (wpAny_bind (collect_set hh ⟨o, ho, hex.1, hd⟩ R.fits (by unfold scanBound; omega) R.tab.ris R.led fun s1 vs k1 z1 g1 o1 pm => ?_)))
  have er : es.toList.map (·.2) = L.map fun q => Value.ref q.1 := by
    rw [R.rows]
    unfold L2.rowsOf
    rw [List.map_map]
    rfl
  rw [er] at pm
  obtain ⟨L1, p1, rfl⟩ := perm_map_inv pm rfl
  have lv : (L1.map fun q => Value.ref q.1).length < 64 := by
    rw [List.length_map, p1.length_eq]
    exact few
  (refine wpAny_bind (wpAny_newList ?_ (by rw [sizeLine_eq]; omega)))
  generalize eN : s1.heap.push { cls := .type "list", data := .seq (L1.map fun q => Value.ref q.1).toArray } = N
  have atN : N.get? s1.heap.objs.size = some (seqObj "list" (L1.map fun q => Value.ref q.1).toArray 0) := by rw [← eN]; exact Heap.get?_push_size _ rfl
  have kN : ∀ b u, s.heap.get? b = some u → N.get? b = some u := fun b u y => by rw [← eN]; exact Heap.get?_push_of_some _ (k1 b u y)
  have eR : upT (L1.map (·.2)) = upT (L.map (·.2)) := upT_congr (p1.map _)
  have okL : okT (L1.map (·.2)) = true := by
    unfold okT at ok ⊢
    rw [List.length_map] at ok ⊢
    rw [p1.length_eq]
    rw [Bool.or_eq_true] at ok ⊢
    rcases ok with ok | ok
    · exact .inl ok
    · refine .inr (List.all_eq_true.mpr fun k m => List.all_eq_true.mp ok k ?_)
      exact (p1.map _).mem_iff.mp m
  have rd : EachIs (fun v k => ∃ as, Reads N v (tI k) as ∧ s1.heap.objs.size ∉ as) (L1.map fun q => Value.ref q.1) (L1.map (·.2)) :=
    (fromL_all fun q m => p1.mem_iff.mp m).mono fun v k ⟨q, m, e1, e2⟩ => ⟨[], by rw [e1, ← e2]; exact isT_reads (isT_keep (R.tup q m) kN), by simp⟩
  refine wpAny_bind (wpAny_holding (sort_tlist (s := { s1 with heap := N }) (R := FromL L) atN (fromL_all fun q m => p1.mem_iff.mp m) rd okL (by rw [List.length_map, p1.length_eq, sizeLine_eq]; omega) (by show A.units + 1 + 3 < cLine; omega) fun out eo => ?_))
  rw [eR] at eo
  obtain ⟨c, hc⟩ := sortedHeap_at (vs := L1.map fun q => Value.ref q.1) (out := List.toArray out) atN
  refine wpAny_pure ⟨_, rfl, h _ s1.heap.objs.size out c (fun b u y => ?_) g1 o1 z1 hc eo⟩
  have y1 := k1 b u y
  have y2 := Heap.lt_size y1
  have szN : N.objs.size = s1.heap.objs.size + 1 := by rw [← eN]; exact Heap.size_push ..
  exact (sortedHeap_old (Nat.ne_of_lt y2) (by rw [szN]; exact Nat.lt_succ_of_lt y2)).trans (kN b u y)
/-! by values -/
section
variable {X : Cx}
def rSetF (K : PySem.W.Frag) (P : Program) (w : World) : List V → Hp → VK → Prop := fun vs H Q => ∃ (l : Addr) (ks : AK), vs = [.ref l] ∧ SqL K H l (ks.map fun p => V.ref p.1) ∧ (∀ p ∈ ks, SqT K H p.1 (p.2.map V.int)) ∧ FewK (ks.map (·.2)) ∧
  ∀ a L, H a = none → (∀ p ∈ L, p ∈ ks) → (∀ p ∈ ks, p.2 ∈ L.map (·.2)) → (L.map (·.2)).Nodup → Q (.ref a) (upd H a (SetTO P w a L))
theorem cr_setF (hc : X.calm = true) (hu : X.A.units + 64 < cLine) : CallR X (.type "set") (rSetF X.K X.prog X.w) := by
  (intro pins s σ H vs us Q I r h)
  obtain ⟨l, ks, rfl, hl, hk, few, q⟩ := h
  rw [Vals.ref1 r]
  (obtain ⟨its, rv, pl, hz⟩ := I.list hl)
  refine setF_call (P := X.prog) (w := X.w) (ks := ks) (I.ok.hd hc) pl.isList (refs_of_vals rv) (fun p m => I.isT (hk p m)) few (by omega) fun g tk L es ep t R got kp => ?_
  have nw : H s.heap.objs.size = none := I.hok.fresh (Nat.le_refl _)
  exact ⟨.ref s.heap.objs.size, upd H s.heap.objs.size (SetTO X.prog X.w s.heap.objs.size L), I.laid (t' := tk) kp (Nat.le_refl _) (setTO_new R.t0), rfl, q _ L nw (fun p m => List.mem_of_mem_take (got.sub p m)) (fun p m => got.all p (by rw [List.take_length]; exact m)) R.nd⟩
def FromV (L : AK) (v : V) (k : List Int) : Prop := ∃ q ∈ L, v = .ref q.1 ∧ q.2 = k
def rSortF (K : PySem.W.Frag) (P : Program) (w : World) : List V → Hp → VK → Prop := fun vs H Q => ∃ (a : Addr) (L : AK), vs = [.ref a] ∧ H a = some (SetTO P w a L) ∧ (∀ p ∈ L, SqT K H p.1 (p.2.map V.int)) ∧ okT (L.map (·.2)) = true ∧
  ∀ ys p, EachIs (FromV L) ys (upT (L.map (·.2))) → H p = none → Q (.ref p) (upd H p (.lst ys))
theorem fromV_of {L : AK} : ∀ {us : List Value} {ks : List (List Int)}, EachIs (FromL L) us ks → ∃ ys, Vals ys us ∧ EachIs (FromV L) ys ks
  | _, _, .nil => ⟨[], .nil, .nil⟩
  | _, _, .cons ⟨q, m, e1, e2⟩ t => by
    obtain ⟨ys, r1, r2⟩ := fromV_of t
    exact ⟨.ref q.1 :: ys, .cons (show RelV (.ref q.1) _ by rw [e1]; rfl) r1, .cons ⟨q, m, rfl, e2⟩ r2⟩
theorem cr_sortF (hc : X.calm = true) (hu : X.A.units + 64 < cLine) : CallR X (.builtin "sorted") (rSortF X.K X.prog X.w) := by
  rintro pins s σ H _ us Q I r ⟨a, L, rfl, ha, hk, ok, q⟩
  obtain ⟨es, ep, t, R⟩ := (I.hok a _ ha).1.full fun p m => I.isT (hk p m)
  cases Vals.ref1 r
  refine sortF_call R (I.ok.hd hc) ok (by omega) fun s' p out c old gens os lies at_ from_ => ?_
  obtain ⟨ys, vals, ev⟩ := fromV_of from_
  have few : ys.length < 64 := by
    rw [ev.length, (upT_perm _).length_eq, List.length_map]
    exact R.few
  have free : H p = none := I.hok.fresh lies
  have ok' := I.hok.laid (o := .lst ys) old lies ⟨by rw [sizeLine_eq]; omega, out, c, vals, at_⟩
  obtain ⟨heap', gens', drawn', toks', os'⟩ := s'
  cases os
  exact ⟨.ref p, _, I.call (ch := []) (Un.laid old lies free) ok' (by rw [show gens' = s.gens from gens]; exact I.bare) (fun _ z => nomatch z), rfl, q ys p ev free⟩
end
/-! as data -/
def dedupT : List (List Int) → List (List Int)
  | [] => []
  | k :: ks => if k ∈ dedupT ks then dedupT ks else k :: dedupT ks
theorem mem_dedupT {k : List Int} : ∀ {ks : List (List Int)}, k ∈ dedupT ks ↔ k ∈ ks
  | [] => Iff.rfl
  | x :: ks => by
    unfold dedupT
    have ih := mem_dedupT (k := k) (ks := ks)
    by_cases h : x ∈ dedupT ks
    · rw [if_pos h, ih, List.mem_cons]
      constructor
      · exact .inr
      · rintro (e | m)
        · rw [e]; exact mem_dedupT.mp h
        · exact m
    · rw [if_neg h, List.mem_cons, List.mem_cons, ih]
theorem nodup_dedupT : ∀ (ks : List (List Int)), (dedupT ks).Nodup
  | [] => List.nodup_nil
  | x :: ks => by
    unfold dedupT
    by_cases h : x ∈ dedupT ks
    · rw [if_pos h]
      exact nodup_dedupT ks
    · rw [if_neg h]
      exact List.nodup_cons.mpr ⟨h, nodup_dedupT ks⟩
theorem perm_of_mem {α : Type} [DecidableEq α] {xs ys : List α} (n1 : xs.Nodup) (n2 : ys.Nodup) (h : ∀ a, a ∈ xs ↔ a ∈ ys) : xs.Perm ys := (List.perm_ext_iff_of_nodup n1 n2).mpr h
def c_sset : List PyData → Option Rs
  | [.list ds] => (match unT ds with
    | some ks => if (okT (dedupT ks) && decide ((dedupT ks).length < 63)) = true then some (.ac ((upT (dedupT ks)).map tI)) else none
    | none => none)
  | _ => none
def x_sset (fa : Fa) : Fe := x_cb c_sset fa
theorem split_ak {K : PySem.W.Frag} {G : Hp} : ∀ {ws : List V} {ks : List (List Int)}, DpAll K G ws (ks.map tI) → ∃ aks : AK, ws = aks.map (fun p => V.ref p.1) ∧ aks.map (·.2) = ks ∧ ∀ p ∈ aks, SqT K G p.1 (p.2.map V.int)
  | _, [], .nil => ⟨[], rfl, rfl, fun p m => by cases m⟩
  | _, k :: ks, .cons h t => by
    obtain ⟨aks, e1, e2, e3⟩ := split_ak t
    cases h with
    | tup hs ha =>
      rw [dp_ints ha] at hs
      refine ⟨(_, k) :: aks, by rw [List.map_cons, ← e1], by rw [List.map_cons, e2], fun p m => ?_⟩
      rcases List.mem_cons.mp m with e | m
      · rw [e]; exact hs
      · exact e3 p m
/-- any new object -/
theorem Rl.newO {K : PySem.W.Frag} {m : Option Addr} {E G0 G H : Hp} {e : Ev} {σ : St} {p : Addr} {o : HO} (R : Rl K m E G0 G e σ H) (h : H p = none) : Rl K m E G0 G e σ (upd H p o) ∧ Stp σ G H e G (upd H p o) e := by
  have nb : ∀ {b : Addr}, H b ≠ none → b ≠ p := fun {b} z y => z (by rw [y]; exact h)
  refine ⟨⟨R.gg, R.gh.trans (same_new h), fun b u b1 b2 => same_new h b u (R.eh b u b1 b2), fun b b1 => ⟨(R.mh b b1).1, ?_⟩, R.nw, R.len, R.im, fun i ds' z => ?_, R.inj⟩, Same.refl _, fun _ b1 _ => b1, fun b u b1 _ => same_new h b u b1, fun _ => rfl, fun b b1 => ?_⟩
  · rw [upd_ne (nb (R.mh b b1).2)]
    exact (R.mh b b1).2
  · obtain ⟨p', ws', z1, z2, z3, z4, z5⟩ := R.ac i ds' z
    have y : p' ≠ p := nb (by rw [z3]; simp)
    exact ⟨p', ws', z1, z2, by rw [upd_ne y]; exact z3, z4, z5⟩
  · rw [upd_ne (nb b1)]
    exact b1
theorem ed_sset {X : Cx} {a : Expr} {fa : Fa} {p p2 q1 pos : Pos} (h : AD X [a] fa) (hm : X.mg "sorted" = none) (hm2 : X.mg "set" = none) (hc : X.calm = true) (hu : X.A.units + 64 < cLine) (hg : Gl X "sorted" := by rfl) (hg2 : Gl X "set" := by rfl)
    (na : starEach [a] X.env = (false, eval a X.env) :: starEach [] X.env := by rfl)
    (nb : starEach [.Call (.Name "set" p2) [a] [] q1] X.env = (false, eval (.Call (.Name "set" p2) [a] [] q1) X.env) :: starEach [] X.env := by rfl) (h1 : (backTo pos (starEach [] X.env)).any (·.1) = false := by rfl) (h2 : (backTo q1 (starEach [] X.env)).any (·.1) = false := by rfl) :
    ED X (.Call (.Name "sorted" p) [.Call (.Name "set" p2) [a] [] q1] [] pos) (x_sset fa) := by
  obtain ⟨t, pa, k⟩ := h
  refine ⟨_, pe_callB (cr_sortF hc hu) hg hm (by decide +kernel) (pa_cons (pe_callTy (cr_setF hc hu) hg2 hm2 (by decide +kernel) pa (by decide) (by decide) na h2) pa_nil nb) (by decide) (by decide) nb h1, fun m E G0 G e σ H r e' Q R q P => ?_⟩
  unfold x_sset x_cb at q
  cases z1 : argsD fa e with
  | none => rw [z1] at q; cases q
  | some z =>
    obtain ⟨ds, e1⟩ := z
    rw [z1] at q
    cases z2 : c_sset ds with
    | none => simp only [z2] at q; cases q
    | some r2 =>
      simp only [z2, Option.some.injEq, Prod.mk.injEq] at q
      obtain ⟨rfl, rfl⟩ := q
      obtain ⟨rs, q1, q2⟩ := argsD_ok z1
      unfold c_sset at z2
      split at z2
      · rename_i es
        split at z2
        · rename_i ks z3
          by_cases z4 : (okT (dedupT ks) && decide ((dedupT ks).length < 63)) = true
          · rw [if_pos z4] at z2
            cases z2
            rw [Bool.and_eq_true, decide_eq_true_eq] at z4
            refine k m E G0 G e σ H rs e1 _ R q1 fun vs G1 H1 R1 S1 V1 => ?_
            have LL := R1.lookAll V1 q2
            rw [unT_ok z3] at LL
            obtain ⟨v, rfl, lv⟩ := lv1 LL
            obtain ⟨l, ws, rfl, s1, d1⟩ := lv.list R1.gh
            obtain ⟨aks, rfl, e2, e3⟩ := split_ak d1
            refine ⟨l, aks, rfl, s1, fun p m => seqT R1.gh (e3 p m), ⟨dedupT ks, z4.2, fun kk m => mem_dedupT.mpr (by rw [← e2]; exact m)⟩, fun a L ha sub all nd => ?_⟩
            have pm : (L.map (·.2)).Perm (dedupT ks) := perm_of_mem nd (nodup_dedupT ks) fun kk => by
              rw [mem_dedupT, ← e2]
              constructor
              · intro m
                obtain ⟨p, pm, rfl⟩ := List.mem_map.mp m
                exact List.mem_map.mpr ⟨p, sub p pm, rfl⟩
              · intro m
                obtain ⟨p, pm, rfl⟩ := List.mem_map.mp m
                exact all p pm
            obtain ⟨R2, S2⟩ := R1.newO (o := SetTO X.prog X.w a L) ha
            have okL : okT (L.map (·.2)) = true := by
              have ok := z4.1
              unfold okT at ok ⊢
              rw [pm.length_eq]
              rw [Bool.or_eq_true] at ok ⊢
              rcases ok with ok | ok
              · exact .inl ok
              · exact .inr (List.all_eq_true.mpr fun k m => List.all_eq_true.mp ok k (pm.mem_iff.mp m))
            refine ⟨a, L, rfl, upd_same, fun p m => seqT R2.gh (e3 p (sub p m)), okL, fun ys p ey hp => ?_⟩
            rw [upT_congr pm] at ey
            have dy : ∀ {ys : List V} {ks : List (List Int)}, EachIs (FromV L) ys ks → DpAll X.K G1 ys (ks.map tI) := by
              intro ys ks ey
              induction ey with
              | nil => exact .nil
              | cons h _ ih =>
                obtain ⟨q, m, x1, x2⟩ := h
                refine .cons ?_ ih
                rw [x1, ← x2]
                exact .tup (e3 q (sub q m)) (dpAll_ints q.2)
            obtain ⟨R3, S3, V3, N3⟩ := R2.newL hp (dy ey)
            exact P _ _ _ R3 (S1.trans (S2.trans S3)) V3 (nw_back (S1.trans S2) _ N3)
          · rw [if_neg z4] at z2
            cases z2
        · cases z2
      · cases z2
end DL
namespace DL
open PySem PySem.Spec PySem.W PyProof.Rows L2

/-! ### small things -/
/-- fuel for a loop that goes down by the int in a slot -/
def fuI (j : Nat) (e : Ev) : Nat := match e[j]? with
  | some (some (.im (.int i))) => i.toNat + 1
  | _ => 0
def s_retN : Fs := fun e => some (.rt (.im .none) e)
/-- a def under its name, every parameter written -/
theorem kfN {P : Program} {w : World} {K : PySem.W.Frag} {mg : Str → Option Value} {base : Heap} {x qual : Str} {params : Arguments} {body : List Stmt} {scope : Scope} {kws : List (Str × V)} {f : Addr} {fd : FuncData} {k : Nat} {sp : Sp} {ps : List Str}
    (F : FunD K x qual params body scope [] kws f fd) (ok : FnOk P w K mg base CX0 k f fd ps sp) (g : mg x = some (.ref f))
    (h : ∀ (kV doc pm : Value) (an : Option Addr) (cdv ct : Value) (us : List Value), us.length = ps.length → bindArgs (PySem.W.fnOf x qual params body scope .none kV doc pm an cdv ct) ⟨us, []⟩ = pure (ps.zip us)) : Kf P w K mg base k x sp [] :=
  ⟨f, fd, ps, [], ok, g, F.kp, F.bindsN h, .nil⟩
/-- .. the defaults behind the first j fill up -/
theorem kfD {P : Program} {w : World} {K : PySem.W.Frag} {mg : Str → Option Value} {base : Heap} {x qual : Str} {params : Arguments} {body : List Stmt} {scope : Scope} {dvs dvs' : List V} {kws : List (Str × V)} {f : Addr} {fd : FuncData} {k : Nat} {sp : Sp} {ps : List Str}
    (F : FunD K x qual params body scope dvs kws f fd) (ok : FnOk P w K mg base CX0 k f fd ps sp) (g : mg x = some (.ref f)) (b : ∃ ds, Vals dvs' ds ∧ Binds K fd ps ds) : Kf P w K mg base k x sp dvs' := by
  obtain ⟨ds, h1, h2⟩ := b
  exact ⟨f, fd, ps, ds, ok, g, F.kp, h2, h1⟩
end DL
namespace DL
open PySem PySem.Spec PySem.W PyProof.Rows L2

/-! ### reckoning: what the operators give -/
def nD (n : Nat) : PyData := .int (n : Int)
section
variable {i j : Int}
theorem e_add : p_add (.int i) (.int j) = some (.im (.int (i + j))) := rfl
theorem e_sub : p_sub (.int i) (.int j) = some (.im (.int (i - j))) := rfl
theorem e_lt : p_lt (.int i) (.int j) = some (.im (.bool (decide (i < j)))) := rfl
theorem e_le : p_le (.int i) (.int j) = some (.im (.bool (decide (i ≤ j)))) := rfl
theorem e_gt : p_gt (.int i) (.int j) = some (.im (.bool (decide (j < i)))) := rfl
theorem e_ge : p_ge (.int i) (.int j) = some (.im (.bool (decide (j ≤ i)))) := rfl
theorem e_eq : p_eq (.int i) (.int j) = some (.im (.bool (decide (i = j)))) := by
  show some (Rs.im (.bool (i == j))) = _
  rw [Bool.beq_eq_decide_eq]
theorem e_ne : p_ne (.int i) (.int j) = some (.im (.bool (!decide (i = j)))) := by
  show some (Rs.im (.bool (!(i == j)))) = _
  rw [Bool.beq_eq_decide_eq]
theorem e_mod (h : 0 < j) : p_mod (.int i) (.int j) = some (.im (.int (i % j))) := by
  show ((if decide (0 < j) = true then some (PyData.int (i % j)) else none).map Rs.im) = _
  rw [if_pos (decide_eq_true h)]
  rfl
theorem e_div (h : 0 < j) (h2 : j < 1073741824) : p_div (.int i) (.int j) = some (.im (.int (i / j))) := by
  show ((if divC i j = true then some (PyData.int (i / j)) else none).map Rs.im) = _
  rw [show divC i j = true from decide_eq_true ⟨h, h2⟩]
  rfl
theorem e_mul (h : (-18446744073709551616 < i ∧ i < 18446744073709551616) ∨ (-18446744073709551616 < j ∧ j < 18446744073709551616)) : p_mul (.int i) (.int j) = some (.im (.int (i * j))) := by
  unfold p_mul orF
  have e : (d_int2 (fun i j => .int (i * j)) mulC (.int i) (.int j)).map Rs.im = some (.im (.int (i * j))) := by
    show ((if mulC i j = true then some (PyData.int (i * j)) else none).map Rs.im) = _
    rw [show mulC i j = true from decide_eq_true h]
    rfl
  simp only [e]
end
theorem okLen_yes {n : Nat} (h : n ≤ 16777216) : okLen n = true := decide_eq_true h
theorem e_cat {a b : List PyData} (h : a.length + b.length ≤ 16777216) : p_add (.list a) (.list b) = some (.ac (a ++ b)) := by
  show orF _ (orF q_cat q_catT) (.list a) (.list b) = _
  have e : q_cat (.list a) (.list b) = some (.ac (a ++ b)) := if_pos (okLen_yes h)
  simp only [orF, d_int2, Option.map_none, e]
theorem e_catT {a b : List PyData} (h : a.length + b.length ≤ 16777216) : p_add (.tuple a) (.tuple b) = some (.im (.tuple (a ++ b))) := by
  show orF _ (orF q_cat q_catT) (.tuple a) (.tuple b) = _
  have e : q_catT (.tuple a) (.tuple b) = some (.im (.tuple (a ++ b))) := if_pos (okLen_yes h)
  simp only [orF, d_int2, Option.map_none, q_cat, e]
theorem e_isnone : p_is .none .none = some (.im (.bool true)) := rfl
theorem e_isT {ds : List PyData} : p_is (.tuple ds) .none = some (.im (.bool false)) := rfl
theorem e_isnotnone : p_isnot .none .none = some (.im (.bool false)) := rfl
theorem e_isnotT {ds : List PyData} : p_isnot (.tuple ds) .none = some (.im (.bool true)) := rfl
theorem e_isB {a b : Bool} : p_is (.bool a) (.bool b) = some (.im (.bool (decide (a = b)))) := rfl
theorem e_isnotB {a b : Bool} : p_isnot (.bool a) (.bool b) = some (.im (.bool (!decide (a = b)))) := rfl
theorem e_neB {a b : Bool} : p_ne (.bool a) (.bool b) = some (.im (.bool (!decide (a = b)))) := by
  cases a <;> cases b <;> rfl
theorem e_eqB {a b : Bool} : p_eq (.bool a) (.bool b) = some (.im (.bool (decide (a = b)))) := by
  cases a <;> cases b <;> rfl
/-! items -/
theorem atI_nat {α : Type} (ds : List α) (j : Nat) : atI ds (j : Int) = ds[j]? := by
  unfold atI ixN
  rw [if_pos (by omega)]
  by_cases h : j < ds.length
  · rw [if_pos (by omega)]
    simp
  · rw [if_neg (by omega), List.getElem?_eq_none (by omega)]
    rfl
theorem ixN_nat {n j : Nat} (h : j < n) : ixN n (j : Int) = some j := by
  unfold ixN
  (rw [if_pos (by omega), if_pos (by omega)])
  simp
theorem e_ixT {ds : List PyData} {j : Nat} {d : PyData} (h : ds[j]? = some d) : p_ix (.tuple ds) (.int (j : Int)) = some (.im d) := by
  show (atI ds (j : Int)).map Rs.im = _
  rw [atI_nat, h]
  rfl
theorem e_ixL {ds : List PyData} {j : Nat} {d : PyData} (h : ds[j]? = some d) : p_ix (.list ds) (.int (j : Int)) = some (.im d) := by
  show (atI ds (j : Int)).map Rs.im = _
  rw [atI_nat, h]
  rfl
/-! lists of ints -/
theorem canLay_ints : ∀ ns : List Int, PyData.canLayAll0 (ns.map PyData.int) = true
  | [] => (by simp [PyData.canLayAll0])
  | n :: ns => by
    rw [List.map_cons, PyData.canLayAll0, canLay_ints ns]
    rfl
theorem shaped_ints (ns : List Int) : SeqAt.shaped (.tuple (ns.map PyData.int)) = true ∧ SeqAt.shaped (.list (ns.map PyData.int)) = true := by
  have h : (PyData.tuple (ns.map PyData.int)).depth ≤ 64 ∧ (PyData.list (ns.map PyData.int)).depth ≤ 64 := by
    constructor
    · show PyData.depthAll (ns.map PyData.int) + 1 ≤ 64
      rw [depth_ints]
      decide
    · show PyData.depthAll (ns.map PyData.int) + 1 ≤ 64
      rw [depth_ints]
      decide
  constructor
  · unfold SeqAt.shaped
    rw [Bool.and_eq_true, PyData.canLay0, decide_eq_true_eq]
    exact ⟨canLay_ints ns, h.1⟩
  · unfold SeqAt.shaped
    rw [Bool.and_eq_true, PyData.canLay0, decide_eq_true_eq]
    exact ⟨canLay_ints ns, h.2⟩
theorem eqv_ints : ∀ (xs ys : List Int), PyData.eqvAll (xs.map PyData.int) (ys.map PyData.int) = decide (xs = ys)
  | [], [] => (by simp [PyData.eqvAll])
  | [], y :: ys => by simp [PyData.eqvAll]
  | x :: xs, [] => by simp [PyData.eqvAll]
  | x :: xs, y :: ys => by
    rw [List.map_cons, List.map_cons, PyData.eqvAll, eqv_ints xs ys]
    simp [PyData.eqv, Bool.beq_eq_decide_eq]
theorem e_eqT (xs ys : List Int) : p_eq (.tuple (xs.map PyData.int)) (.tuple (ys.map PyData.int)) = some (.im (.bool (decide (xs = ys)))) := by
  unfold p_eq
  rw [(shaped_ints xs).1, (shaped_ints ys).1]
  show some (Rs.im (.bool (PyData.eqvAll _ _))) = _
  rw [eqv_ints]
theorem e_neT (xs ys : List Int) : p_ne (.tuple (xs.map PyData.int)) (.tuple (ys.map PyData.int)) = some (.im (.bool (!decide (xs = ys)))) := by
  unfold p_ne
  rw [(shaped_ints xs).1, (shaped_ints ys).1]
  show some (Rs.im (.bool (!PyData.eqvAll _ _))) = _
  rw [eqv_ints]
theorem e_eqL (xs ys : List Int) : p_eq (.list (xs.map PyData.int)) (.list (ys.map PyData.int)) = some (.im (.bool (decide (xs = ys)))) := by
  unfold p_eq
  rw [(shaped_ints xs).2, (shaped_ints ys).2]
  show some (Rs.im (.bool (PyData.eqvAll _ _))) = _
  rw [eqv_ints]
theorem flat_ints (ns : List Int) : (ns.map PyData.int).all flatD = true := by
  rw [List.all_eq_true]
  intro d m
  obtain ⟨i, _, rfl⟩ := List.mem_map.mp m
  rfl
theorem inD_ints (x : Int) : ∀ ns : List Int, inD (.int x) (ns.map PyData.int) = decide (x ∈ ns)
  | [] => by simp [inD]
  | n :: ns => by
    have ih := inD_ints x ns
    unfold inD at ih ⊢
    rw [List.map_cons, List.any_cons, ih]
    simp only [PyData.eqv, List.mem_cons]
    by_cases h : n = x
    · subst h
      simp
    · have h2 : ¬ x = n := fun z => h z.symm
      simp [h, h2]
theorem e_in (x : Int) (ns : List Int) : p_in (.int x) (.list (ns.map PyData.int)) = some (.im (.bool (decide (x ∈ ns)))) := by
  show (if (flatD (.int x) && (ns.map PyData.int).all flatD) = true then some (Rs.im (.bool (inD (.int x) (ns.map PyData.int)))) else none) = _
  rw [flat_ints, inD_ints]
  rfl
theorem e_notin (x : Int) (ns : List Int) : p_notin (.int x) (.list (ns.map PyData.int)) = some (.im (.bool (!decide (x ∈ ns)))) := by
  show (if (flatD (.int x) && (ns.map PyData.int).all flatD) = true then some (Rs.im (.bool (!inD (.int x) (ns.map PyData.int)))) else none) = _
  rw [flat_ints, inD_ints]
  rfl
def iN (l : List Nat) : List Int := l.map fun (n : Nat) => (n : Int)
theorem map_nD (l : List Nat) : l.map nD = (iN l).map PyData.int := by
  unfold iN
  rw [List.map_map]
  rfl
theorem iN_inj {l m : List Nat} : iN l = iN m ↔ l = m := by
  unfold iN
  constructor
  · intro h
    induction l generalizing m with
    | nil =>
      cases m with
      | nil => rfl
      | cons a m => cases h
    | cons a l ih =>
      cases m with
      | nil => cases h
      | cons b m =>
        (rw [List.map_cons, List.map_cons] at h)
        injection h with h1 h2
        rw [ih h2, Int.ofNat_inj.mp h1]
  · intro h
    rw [h]
theorem mem_iN {x : Nat} {l : List Nat} : (x : Int) ∈ iN l ↔ x ∈ l := by
  unfold iN
  rw [List.mem_map]
  constructor
  · rintro ⟨y, m, e⟩
    have : y = x := by omega
    rw [← this]
    exact m
  · intro m
    exact ⟨x, m, rfl⟩
theorem e_inN (x : Nat) (l : List Nat) : p_in (.int (x : Int)) (.list (l.map nD)) = some (.im (.bool (decide (x ∈ l)))) := by
  rw [map_nD, e_in]
  congr 3
  exact decide_eq_decide.mpr mem_iN
theorem e_notinN (x : Nat) (l : List Nat) : p_notin (.int (x : Int)) (.list (l.map nD)) = some (.im (.bool (!decide (x ∈ l)))) := by
  rw [map_nD, e_notin]
  congr 4
  exact decide_eq_decide.mpr mem_iN
theorem e_eqTN (l m : List Nat) : p_eq (.tuple (l.map nD)) (.tuple (m.map nD)) = some (.im (.bool (decide (l = m)))) := by
  rw [map_nD, map_nD, e_eqT]
  congr 3
  exact decide_eq_decide.mpr iN_inj
theorem e_neTN (l m : List Nat) : p_ne (.tuple (l.map nD)) (.tuple (m.map nD)) = some (.im (.bool (!decide (l = m)))) := by
  rw [map_nD, map_nD, e_neT]
  congr 4
  exact decide_eq_decide.mpr iN_inj
theorem unI_ints : ∀ (ns : List Int), unI (ns.map PyData.int) = some ns
  | [] => rfl
  | n :: ns => by
    show (unI (ns.map PyData.int)).map (n :: ·) = _
    rw [unI_ints ns]
    rfl
/-! ### loops -/
theorem forGo_nx {γ : PyData → Ev → Option Ev} {S : List Nat} {fb : Fs} (ds : List PyData) (E : Nat → Ev)
    (h : ∀ i d, ds[i]? = some d → okS S (E i) = true ∧ ∃ e2, γ d (E i) = some e2 ∧ (fb e2 = some (.nx (E (i + 1))) ∨ fb e2 = some (.ct (E (i + 1))))) : forGo γ S fb ds (E 0) = some (.nx (E ds.length)) := by
  induction ds generalizing E with
  | nil => rfl
  | cons d ds ih =>
    obtain ⟨h1, e2, h2, h3⟩ := h 0 d rfl
    have q := ih (fun i => E (i + 1)) fun i d hd => h (i + 1) d (by simpa using hd)
    show (if okS S (E 0) = true then _ else none) = _
    rw [if_pos h1, h2]
    rcases h3 with h3 | h3
    · simp only [h3]
      exact q
    · simp only [h3]
      exact q
/-- .. that ends early at k -/
theorem forGo_at {γ : PyData → Ev → Option Ev} {S : List Nat} {fb : Fs} (ds : List PyData) (E : Nat → Ev) (k : Nat) {dk : PyData} {ek : Ev} {fl : Fl} (hk : ds[k]? = some dk) (ok : okS S (E k) = true) (hg : γ dk (E k) = some ek)
    (hf : (∃ r e, fb ek = some (.rt r e) ∧ fl = .rt r e) ∨ (∃ e, fb ek = some (.bk e) ∧ fl = .nx e))
    (h : ∀ i d, i < k → ds[i]? = some d → okS S (E i) = true ∧ ∃ e2, γ d (E i) = some e2 ∧ (fb e2 = some (.nx (E (i + 1))) ∨ fb e2 = some (.ct (E (i + 1))))) : forGo γ S fb ds (E 0) = some fl := by
  induction ds generalizing E k with
  | nil => simp at hk
  | cons d ds ih =>
    cases k with
    | zero =>
      have e : d = dk := by simpa using hk
      subst e
      show (if okS S (E 0) = true then _ else none) = _
      rw [if_pos ok, hg]
      rcases hf with ⟨r, e, h1, rfl⟩ | ⟨e, h1, rfl⟩
      · simp only [h1]
      · simp only [h1]
    | succ k =>
      obtain ⟨h1, e2, h2, h3⟩ := h 0 d (Nat.succ_pos _) rfl
      have q := ih (fun i => E (i + 1)) k (by simpa using hk) ok hg fun i d hi hd => h (i + 1) d (by omega) (by simpa using hd)
      show (if okS S (E 0) = true then _ else none) = _
      rw [if_pos h1, h2]
      rcases h3 with h3 | h3
      · simp only [h3]
        exact q
      · simp only [h3]
        exact q
theorem whGo_nx {tst : Ft} {fb : Fs} (E : Nat → Ev) {k : Nat} {e' : Ev} (hk : tst (E k) = some (false, e')) : ∀ {n : Nat}, k < n → (∀ i, i < k → ∃ e2, tst (E i) = some (true, e2) ∧ (fb e2 = some (.nx (E (i + 1))) ∨ fb e2 = some (.ct (E (i + 1))))) → whGo tst fb n (E 0) = some (.nx e') := by
  induction k generalizing E with
  | zero =>
    intro n hn h
    cases n with
    | zero => omega
    | succ n =>
      simp only [whGo, hk]
  | succ k ih =>
    intro n hn h
    cases n with
    | zero => omega
    | succ n =>
      obtain ⟨e2, h1, h2⟩ := h 0 (by omega)
      have q := ih (fun i => E (i + 1)) hk (n := n) (by omega) fun i hi => h (i + 1) (by omega)
      rcases h2 with h2 | h2
      · simp only [whGo, h1, h2]
        exact q
      · simp only [whGo, h1, h2]
        exact q
/-! ### comprehensions -/
theorem rest_wipe (e : Ev) (vs : List Nat) : restE e (wipeE e vs) vs = e := by
  (refine List.ext_getElem? fun j => ?_)
  by_cases h : j ∈ vs
  · rw [restE_in (wipeE_len vs) h]
  · rw [restE_out h, wipeE_out h]
theorem lcGo_map {γ : PyData → Ev → Option Ev} {tst : Ft} {fe : Fe} {vs : List Nat} {E : Ev} {bl : PyData → Bool} {el : PyData → PyData} : ∀ (ds acc : List PyData), acc.length + ds.length ≤ 16777216 →
    (∀ d ∈ ds, ∃ a a2, γ d E = some a ∧ tst a = some (bl d, a2) ∧ (bl d = false → wipeE a2 vs = E) ∧ (bl d = true → ∃ r a3, fe a2 = some (r, a3) ∧ imR (frzR r) = some (el d) ∧ wipeE a3 vs = E)) →
    lcGo γ tst fe vs ds E acc = some (acc ++ (ds.filter bl).map el, E)
  | [], acc, _, _ => by simp [lcGo]
  | d :: ds, acc, hl, h => by
    obtain ⟨a, a2, h1, h2, h3, h4⟩ := h d List.mem_cons_self
    rw [List.length_cons] at hl
    simp only [lcGo, h1, h2]
    cases c : bl d with
    | false =>
      have q := lcGo_map ds acc (by omega) fun x m => h x (List.mem_cons_of_mem _ m)
      simp only [h3 c]
      rw [q, List.filter_cons_of_neg (by simp [c])]
    | true =>
      obtain ⟨r, a3, h5, h6, h7⟩ := h4 c
      have q := lcGo_map ds (acc ++ [el d]) (by simp only [List.length_append, List.length_cons, List.length_nil]; omega) fun x m => h x (List.mem_cons_of_mem _ m)
      simp only [h5, h6, h7]
      rw [if_pos (okLen_yes (by omega)), q, List.filter_cons_of_pos c, List.map_cons, List.append_assoc]
      rfl
theorem x_lc_map {fi : Fi} {γ : PyData → Ev → Option Ev} {tst : Ft} {fe : Fe} {vs : List Nat} {e e1 : Ev} {ds : List PyData} (bl : PyData → Bool) (el : PyData → PyData) (hi : fi e = some (ds, e1)) (hn : noAc e1 vs = true) (hl : ds.length ≤ 16777216)
    (h : ∀ d ∈ ds, ∃ a a2, γ d (wipeE e1 vs) = some a ∧ tst a = some (bl d, a2) ∧ (bl d = false → wipeE a2 vs = wipeE e1 vs) ∧ (bl d = true → ∃ r a3, fe a2 = some (r, a3) ∧ imR (frzR r) = some (el d) ∧ wipeE a3 vs = wipeE e1 vs)) :
    x_lc fi γ tst fe vs e = some (.ac ((ds.filter bl).map el), e1) := by
  unfold x_lc
  simp only [hi]
  rw [if_pos hn, lcGo_map ds [] (by simpa using hl) h]
  simp only [rest_wipe, List.nil_append]
/-- no if -/
theorem x_lc_all {fi : Fi} {γ : PyData → Ev → Option Ev} {fe : Fe} {vs : List Nat} {e e1 : Ev} {ds : List PyData} (el : PyData → PyData) (hi : fi e = some (ds, e1)) (hn : noAc e1 vs = true) (hl : ds.length ≤ 16777216)
    (h : ∀ d ∈ ds, ∃ a r a3, γ d (wipeE e1 vs) = some a ∧ fe a = some (r, a3) ∧ imR (frzR r) = some (el d) ∧ wipeE a3 vs = wipeE e1 vs) :
    x_lc fi γ t_yes fe vs e = some (.ac (ds.map el), e1) := by
  have q := x_lc_map (fi := fi) (γ := γ) (tst := t_yes) (fe := fe) (vs := vs) (e := e) (fun _ => true) el hi hn hl fun d m => by
    obtain ⟨a, r, a3, h1, h2, h3, h4⟩ := h d m
    exact ⟨a, a, h1, rfl, fun z => (by cases z), fun _ => ⟨r, a3, h2, h3, h4⟩⟩
  rw [q, List.filter_eq_self.mpr fun _ _ => rfl]
end DL
namespace DL
open PySem PySem.Spec PySem.W PyProof.Rows L2
/-! ### the evaluators, applied -/
theorem r_x_var (i : Nat) (e : Ev) : x_var i e = (match e[i]? with
  | some (some (.im d)) => some (.im d, e)
  | some (some (.ac _)) => some (.br i, e)
  | _ => none) := of_eq_true (eq_self _)
theorem r_x_c (d : PyData) (e : Ev) : x_c d e = (some (.im d, e)) := of_eq_true (eq_self _)
theorem r_two (fa fb : Fe) (e : Ev) : two fa fb e = (match fa e with
  | some (ra, e1) => (match fb e1 with
    | some (rb, e2) => some (frzR ra, frzR rb, e2)
    | none => none)
  | none => none) := of_eq_true (eq_self _)
theorem r_x_bin (φ : PyData → PyData → Option Rs) (fa fb : Fe) (e : Ev) : x_bin φ fa fb e = (match two fa fb e with
  | some p => (match look2 p with
    | some (a, b, e2) => (match φ a b with
      | some r => some (r, e2)
      | none => none)
    | none => none)
  | none => none) := of_eq_true (eq_self _)
theorem r_t_of (f : Fe) (e : Ev) : t_of f e = (match f e with
  | some (.im (.bool b), e1) => some (b, e1)
  | _ => none) := of_eq_true (eq_self _)
theorem r_t_not (f : Ft) (e : Ev) : t_not f e = (match f e with
  | some (b, e1) => some (!b, e1)
  | none => none) := of_eq_true (eq_self _)
theorem r_t_and (f g : Ft) (e : Ev) : t_and f g e = (match f e with
  | some (true, e1) => g e1
  | some (false, e1) => some (false, e1)
  | none => none) := of_eq_true (eq_self _)
theorem r_t_or (f g : Ft) (e : Ev) : t_or f g e = (match f e with
  | some (true, e1) => some (true, e1)
  | some (false, e1) => g e1
  | none => none) := of_eq_true (eq_self _)
theorem r_x_and (f g : Fe) (e : Ev) : x_and f g e = (match f e with
  | some (.im (.bool true), e1) => g e1
  | some (.im (.bool false), e1) => some (.im (.bool false), e1)
  | _ => none) := of_eq_true (eq_self _)
theorem r_x_or (f g : Fe) (e : Ev) : x_or f g e = (match f e with
  | some (.im (.bool true), e1) => some (.im (.bool true), e1)
  | some (.im (.bool false), e1) => g e1
  | _ => none) := of_eq_true (eq_self _)
theorem r_x_not (f : Fe) (e : Ev) : x_not f e = (match f e with
  | some (.im (.bool b), e1) => some (.im (.bool !b), e1)
  | _ => none) := of_eq_true (eq_self _)
theorem r_x_if (c : Ft) (f g : Fe) (e : Ev) : x_if c f g e = (match c e with
  | some (true, e1) => f e1
  | some (false, e1) => g e1
  | none => none) := of_eq_true (eq_self _)
theorem r_x_chain (φ ψ : PyData → PyData → Option Rs) (fa fb fc : Fe) (e : Ev) : x_chain φ ψ fa fb fc e = (match two fa fb e with
  | some p => (match look2 p with
    | some (a, b, e2) => (match φ a b with
      | some (.im (.bool true)) => (match fc e2 with
        | some (rc, e3) => (match lookR e3 p.2.1, lookR e3 (frzR rc) with
          | some b, some c => (match ψ b c with
            | some r => some (r, e3)
            | none => none)
          | _, _ => none)
        | none => none)
      | some (.im (.bool false)) => some (.im (.bool false), e2)
      | _ => none)
    | none => none)
  | none => none) := of_eq_true (eq_self _)
theorem r_a_nil (e : Ev) : a_nil  e = (some ([], e)) := of_eq_true (eq_self _)
theorem r_a_cons (fa : Fe) (fr : Fa) (e : Ev) : a_cons fa fr e = (match fa e with
  | some (r, e1) => (match fr e1 with
    | some (rs, e2) => some (frzR r :: rs, e2)
    | none => none)
  | none => none) := of_eq_true (eq_self _)
theorem r_argsD (fa : Fa) (e : Ev) : argsD fa e = (match fa e with
  | some (rs, e1) => (match lookAll e1 rs with
    | some ds => some (ds, e1)
    | none => none)
  | none => none) := of_eq_true (eq_self _)
theorem r_argsI (fa : Fa) (e : Ev) : argsI fa e = (match fa e with
  | some (rs, e1) => (match imAll rs with
    | some ds => some (ds, e1)
    | none => none)
  | none => none) := of_eq_true (eq_self _)
theorem r_x_tup (fa : Fa) (e : Ev) : x_tup fa e = (match argsI fa e with
  | some (ds, e1) => if okLen ds.length = true then some (.im (.tuple ds), e1) else none
  | none => none) := of_eq_true (eq_self _)
theorem r_x_lst (fa : Fa) (e : Ev) : x_lst fa e = (match argsI fa e with
  | some (ds, e1) => if okLen ds.length = true then some (.ac ds, e1) else none
  | none => none) := of_eq_true (eq_self _)
theorem r_x_rep (fa : Fa) (fb : Fe) (e : Ev) : x_rep fa fb e = (match argsI fa e with
  | some (ds, e1) => (match fb e1 with
    | some (.im (.int k), e2) => if (okLen ds.length && (decide (-9223372036854775808 ≤ k ∧ k < 9223372036854775808) && okLen (ds.length * k.toNat))) = true then some (.ac (List.replicate k.toNat ds).flatten, e2) else none
    | _ => none)
  | none => none) := of_eq_true (eq_self _)
theorem r_o_no (e : Ev) : o_no  e = (some (none, e)) := of_eq_true (eq_self _)
theorem r_o_at (f : Fe) (e : Ev) : o_at f e = (match f e with
  | some (.im (.int i), e1) => some (some i, e1)
  | _ => none) := of_eq_true (eq_self _)
theorem r_x_sl (fa : Fe) (fl fh : Fo) (e : Ev) : x_sl fa fl fh e = (match fa e with
  | some (r, e1) => (match fl e1 with
    | some (lo, e2) => (match fh e2 with
      | some (hi, e3) => (match lookR e3 (frzR r) with
        | some d => (match sliced lo hi d with
          | some r2 => some (r2, e3)
          | none => none)
        | none => none)
      | none => none)
    | none => none)
  | none => none) := of_eq_true (eq_self _)
theorem r_x_rev (fa : Fe) (e : Ev) : x_rev fa e = (match fa e with
  | some (r, e1) => (match lookR e1 (frzR r) with
    | some (.list ds) => some (.ac ds.reverse, e1)
    | _ => none)
  | none => none) := of_eq_true (eq_self _)
theorem r_x_neg (fa : Fe) (e : Ev) : x_neg fa e = (match fa e with
  | some (.im (.int i), e1) => some (.im (.int (-i)), e1)
  | _ => none) := of_eq_true (eq_self _)
theorem r_x_cb (φ : List PyData → Option Rs) (fa : Fa) (e : Ev) : x_cb φ fa e = (match argsD fa e with
  | some (ds, e1) => (match φ ds with
    | some r => some (r, e1)
    | none => none)
  | none => none) := of_eq_true (eq_self _)
theorem r_x_isi (T : Ty) (f : Fe) (e : Ev) : x_isi T f e = (match f e with
  | some (r, e1) => (match lookR e1 (frzR r) with
    | some d => (match isD T d with
      | some b => some (.im (.bool b), e1)
      | none => none)
    | none => none)
  | none => none) := of_eq_true (eq_self _)
theorem r_g_name (i : Nat) (d : PyData) (e : Ev) : g_name i d e = (some (e.set i (some (.im d)))) := of_eq_true (eq_self _)
theorem r_g_tup (S : List Nat) (d : PyData) (e : Ev) : g_tup S d e = (match d with
  | .tuple ds => setAll S ds e
  | _ => none) := of_eq_true (eq_self _)
theorem r_i_seq (f : Fe) (e : Ev) : i_seq f e = (match f e with
  | some (r, e1) => (match frzR r with
    | .im (.list ds) => some (ds, e1)
    | .im (.tuple ds) => some (ds, e1)
    | _ => none)
  | none => none) := of_eq_true (eq_self _)
theorem r_i_rev (f : Fe) (e : Ev) : i_rev f e = (match i_seq f e with
  | some (ds, e1) => some (ds.reverse, e1)
  | none => none) := of_eq_true (eq_self _)
theorem r_i_rng1 (fa : Fe) (e : Ev) : i_rng1 fa e = (match fa e with
  | some (.im (.int j), e1) => if rgC j = true then some (rngD 0 j.toNat 1, e1) else none
  | _ => none) := of_eq_true (eq_self _)
theorem r_i_rng2 (fa fb : Fe) (e : Ev) : i_rng2 fa fb e = (match fa e with
  | some (.im (.int i), e1) => (match fb e1 with
    | some (.im (.int j), e2) => if (rgC i && rgC j) = true then some (rngD i (j - i).toNat 1, e2) else none
    | _ => none)
  | _ => none) := of_eq_true (eq_self _)
theorem r_i_rng3 (fa fb fc : Fe) (e : Ev) : i_rng3 fa fb fc e = (match fa e with
  | some (.im (.int i), e1) => (match fb e1 with
    | some (.im (.int j), e2) => (match fc e2 with
      | some (.im (.int c), e3) => if (rgC i && (rgC j && decide (c = -1))) = true then some (rngD i (i - j).toNat (-1), e3) else none
      | _ => none)
    | _ => none)
  | _ => none) := of_eq_true (eq_self _)
theorem r_i_zip (fa fb : Fe) (e : Ev) : i_zip fa fb e = (match two fa fb e with
  | some (.im (.list xs), .im (.list ys), e1) => some (zipD xs ys, e1)
  | some (.im (.tuple xs), .im (.tuple ys), e1) => some (zipD xs ys, e1)
  | _ => none) := of_eq_true (eq_self _)
theorem r_x_lc (fi : Fi) (γ : PyData → Ev → Option Ev) (tst : Ft) (fe : Fe) (vs : List Nat) (e : Ev) : x_lc fi γ tst fe vs e = (match fi e with
  | some (ds, e1) => if noAc e1 vs = true then (match lcGo γ tst fe vs ds (wipeE e1 vs) [] with
    | some (acc, e2) => some (.ac acc, restE e1 e2 vs)
    | none => none) else none
  | none => none) := of_eq_true (eq_self _)
theorem r_t_yes (e : Ev) : t_yes  e = (some (true, e)) := of_eq_true (eq_self _)
theorem r_s_seq (f g : Fs) (e : Ev) : s_seq f g e = (match f e with
  | some (.nx e1) => g e1
  | some x => some x
  | none => none) := of_eq_true (eq_self _)
theorem r_s_nx (e : Ev) : s_nx  e = (some (.nx e)) := of_eq_true (eq_self _)
theorem r_s_bk (e : Ev) : s_bk  e = (some (.bk e)) := of_eq_true (eq_self _)
theorem r_s_ct (e : Ev) : s_ct  e = (some (.ct e)) := of_eq_true (eq_self _)
theorem r_s_drop (f : Fe) (e : Ev) : s_drop f e = (match f e with
  | some (_, e1) => some (.nx e1)
  | none => none) := of_eq_true (eq_self _)
theorem r_s_ret (f : Fe) (e : Ev) : s_ret f e = (match f e with
  | some (r, e1) => some (.rt r e1)
  | none => none) := of_eq_true (eq_self _)
theorem r_s_if (c : Ft) (f g : Fs) (e : Ev) : s_if c f g e = (match c e with
  | some (true, e1) => f e1
  | some (false, e1) => g e1
  | none => none) := of_eq_true (eq_self _)
theorem r_s_set (i : Nat) (f : Fe) (e : Ev) : s_set i f e = (match f e with
  | some (r, e1) => if okS [i] e1 = true then (match putA i e1 r with
    | some e2 => some (.nx e2)
    | none => none) else none
  | none => none) := of_eq_true (eq_self _)
theorem r_s_for (fi : Fi) (γ : PyData → Ev → Option Ev) (S : List Nat) (fb : Fs) (e : Ev) : s_for fi γ S fb e = (match fi e with
  | some (ds, e1) => forGo γ S fb ds e1
  | none => none) := of_eq_true (eq_self _)
theorem r_s_while (n : Ev → Nat) (tst : Ft) (fb : Fs) (e : Ev) : s_while n tst fb e = (whGo tst fb (n e) e) := of_eq_true (eq_self _)
theorem r_s_fz (j : Nat) (f : Fs) (e : Ev) : s_fz j f e = (f (fzE j e)) := of_eq_true (eq_self _)
theorem r_x_app (i : Nat) (fa : Fe) (e : Ev) : x_app i fa e = (if isAc e[i]? = true then (match fa e with
  | some (r, e1) => (match imR (frzR r), e1[i]? with
    | some d, some (some (.ac ds)) => if okLen (ds.length + 1) = true then some (.im .none, e1.set i (some (.ac (ds ++ [d])))) else none
    | _, _ => none)
  | none => none) else none) := of_eq_true (eq_self _)
theorem r_x_ext (i : Nat) (fa : Fe) (e : Ev) : x_ext i fa e = (if isAc e[i]? = true then (match fa e with
  | some (.ac es, e1) => (match e1[i]? with
    | some (some (.ac ds)) => if okLen (ds.length + es.length) = true then some (.im .none, e1.set i (some (.ac (ds ++ es)))) else none
    | _ => none)
  | _ => none) else none) := of_eq_true (eq_self _)
theorem r_s_put (i : Nat) (fv fk : Fe) (e : Ev) : s_put i fv fk e = (match fv e with
  | some (r, e1) => if isAc e1[i]? = true then (match imR (frzR r), fk e1 with
    | some d, some (.im (.int k), e2) => (match e2[i]? with
      | some (some (.ac ds)) => (match ixN ds.length k with
        | some j => some (.nx (e2.set i (some (.ac (ds.set j d)))))
        | none => none)
      | _ => none)
    | _, _ => none) else none
  | none => none) := of_eq_true (eq_self _)
theorem r_s_augI (g : Int → Int → Int) (i : Nat) (fk fv : Fe) (e : Ev) : s_augI g i fk fv e = (if isAc e[i]? = true then (match fk e with
  | some (.im (.int k), e1) => (match e1[i]? with
    | some (some (.ac ds)) => (match atI ds k, fv e1 with
      | some (.int a), some (.im (.int b), e2) => (match e2[i]? with
        | some (some (.ac ds2)) => (match ixN ds2.length k with
          | some j => some (.nx (e2.set i (some (.ac (ds2.set j (.int (g a b)))))))
          | none => none)
        | _ => none)
      | _, _ => none)
    | _ => none)
  | _ => none) else none) := of_eq_true (eq_self _)
theorem r_s_aug (g : Int → Int → Int) (i : Nat) (fv : Fe) (e : Ev) : s_aug g i fv e = (match e[i]? with
  | some (some (.im (.int a))) => (match fv e with
    | some (.im (.int b), e1) => if okS [i] e1 = true then some (.nx (e1.set i (some (.im (.int (g a b)))))) else none
    | _ => none)
  | _ => none) := of_eq_true (eq_self _)
theorem r_s_asg (γ : PyData → Ev → Option Ev) (S : List Nat) (f : Fe) (e : Ev) : s_asg γ S f e = (match f e with
  | some (r, e1) => if okS S e1 = true then (match imR (frzR r) with
    | some d => (match γ d e1 with
      | some e2 => some (.nx e2)
      | none => none)
    | none => none) else none
  | none => none) := of_eq_true (eq_self _)
theorem r_x_call (φ : List PyData → Option Rs) (dds : List PyData) (fa : Fa) (e : Ev) : x_call φ dds fa e = (match argsI fa e with
  | some (ds, e1) => (match φ (ds ++ dds) with
    | some (.im d) => some (.im d, e1)
    | some (.ac cs) => some (.ac cs, e1)
    | _ => none)
  | none => none) := of_eq_true (eq_self _)
theorem r_x_callM (φ : List PyData → List PyData → Option (Rs × List PyData)) (dds : List PyData) (fa : Fa) (e : Ev) : x_callM φ dds fa e = (match fa e with
  | some (.br i :: rs, e1) => (match imAll rs, e1[i]? with
    | some ds, some (some (.ac c)) => (match φ c (ds ++ dds) with
      | some (.im d, c') => some (.im d, e1.set i (some (.ac c')))
      | some (.ac cs, c') => some (.ac cs, e1.set i (some (.ac c')))
      | _ => none)
    | _, _ => none)
  | _ => none) := of_eq_true (eq_self _)
theorem r_x_stp (c : Int) (fa : Fe) (fl fh : Fo) (e : Ev) : x_stp c fa fl fh e = (match fa e with
  | some (r, e1) => (match fl e1 with
    | some (lo, e2) => (match fh e2 with
      | some (hi, e3) => (match lookR e3 (frzR r) with
        | some (.list ds) => if okLen (pickD ds lo hi c).length = true then some (.ac (pickD ds lo hi c), e3) else none
        | _ => none)
      | none => none)
    | none => none)
  | none => none) := of_eq_true (eq_self _)
theorem r_i_enum (f : Fe) (e : Ev) : i_enum f e = (match i_seq f e with
  | some (ds, e1) => some (enumD ds, e1)
  | none => none) := of_eq_true (eq_self _)
theorem r_g_rg1 (fa : Fe) (e : Ev) : g_rg1 fa e = (match fa e with
  | some (.im (.int b), e1) => some (0, b, e1)
  | _ => none) := of_eq_true (eq_self _)
theorem r_g_rg2 (fa fb : Fe) (e : Ev) : g_rg2 fa fb e = (match fa e with
  | some (.im (.int a), e1) => (match fb e1 with
    | some (.im (.int b), e2) => some (a, b, e2)
    | _ => none)
  | _ => none) := of_eq_true (eq_self _)
theorem r_x_lrg (f : Fg) (e : Ev) : x_lrg f e = (match f e with
  | some (a, b, e1) => if rgOkB a b = true then some (.ac (rgL a b), e1) else none
  | none => none) := of_eq_true (eq_self _)
theorem r_x_trg (f : Fg) (e : Ev) : x_trg f e = (match f e with
  | some (a, b, e1) => if rgOkB a b = true then some (.im (.tuple (rgL a b)), e1) else none
  | none => none) := of_eq_true (eq_self _)
theorem r_s_retN (e : Ev) : s_retN  e = (some (.rt (.im .none) e)) := of_eq_true (eq_self _)
theorem r_s_setF (i : Nat) (f : Fe) (e : Ev) : s_setF i f e = (match f e with
  | some (r, e1) => if okS [i] e1 = true then (match putA i e1 (frzR r) with
    | some e2 => some (.nx e2)
    | none => none) else none
  | none => none) := by
  unfold s_setF s_set
  cases h : f e with
  | none => simp only [h]
  | some z => simp only [h] <;> rfl
end DL
namespace DL
open PySem PySem.Spec PySem.W PyProof.Rows L2

/-! ### steps of a reckoning -/
section
variable {f g : Fs} {e e1 : Ev} {r : Rs} {o : Option Fl} {x : Fe} {ds : List PyData} {fi : Fi} {γ : PyData → Ev → Option Ev} {S : List Nat} {fb : Fs} {c : Ft} {b : Bool} {n nl : Nat} {r' : Rs}
theorem sq (h : f e = some (.nx e1)) (k : g e1 = o) : s_seq f g e = o := by
  rw [r_s_seq, h]
  exact k
theorem sr (h : f e = some (.rt r e1)) : s_seq f g e = some (.rt r e1) := by
  rw [r_s_seq, h]
theorem ifT (h : c e = some (true, e1)) (k : f e1 = o) : s_if c f g e = o := by
  rw [r_s_if, h]
  exact k
theorem ifF (h : c e = some (false, e1)) (k : g e1 = o) : s_if c f g e = o := by
  rw [r_s_if, h]
  exact k
theorem ifB {b : Bool} (h : c e = some (b, e1)) (k : (if b = true then f e1 else g e1) = o) : s_if c f g e = o := by
  rw [r_s_if, h]
  cases b with
  | true => exact k
  | false => exact k
theorem sf (h : fi e = some (ds, e1)) (k : forGo γ S fb ds e1 = o) : s_for fi γ S fb e = o := by
  rw [r_s_for, h]
  exact k
theorem ret (h : x e = some (r, e1)) : s_ret x e = some (.rt r e1) := by
  rw [r_s_ret, h]
theorem setF {i : Nat} {d : PyData} (h : x e = some (r, e1)) (ok : okS [i] e1 = true) (hr : frzR r = .im d) : s_setF i x e = some (.nx (e1.set i (some (.im d)))) := by
  rw [r_s_setF, h]
  simp only [ok, hr, putA]
  rfl
theorem setX {i : Nat} {e2 : Ev} (h : x e = some (r, e1)) (ok : okS [i] e1 = true) (hr : putA i e1 r = some e2) : s_set i x e = some (.nx e2) := by
  rw [r_s_set, h]
  simp only [ok, hr]
  rfl
theorem drop (h : x e = some (r, e1)) : s_drop x e = some (.nx e1) := by
  rw [r_s_drop, h]
theorem runs (hl : ds.length = n) (h : g (env0 ds nl) = some (.rt r e)) (k : finR r e = some r') : runF n nl g ds = some r' := by
  unfold runF
  rw [if_pos hl, h]
  exact k
theorem runN (hl : ds.length = n) (h : g (env0 ds nl) = some (.nx e)) : runF n nl g ds = some (.im .none) := by
  unfold runF
  rw [if_pos hl, h]
theorem cbT (h : x e = some (.ac ds, e1)) : x_cb c_tuple (a_cons x a_nil) e = some (.im (.tuple ds), e1) := by
  simp [r_x_cb, r_argsD, r_a_cons, r_a_nil, h, lookAll, lookR, frzR, c_tuple]
theorem cbTv {i : Nat} (h : e[i]? = some (some (.ac ds))) : x_cb c_tuple (a_cons (x_var i) a_nil) e = some (.im (.tuple ds), e) := by
  simp [r_x_cb, r_argsD, r_a_cons, r_a_nil, r_x_var, h, lookAll, lookR, frzR, c_tuple]
theorem cbTi {d : PyData} (h : x e = some (.im (.list ds), e1)) : x_cb c_tuple (a_cons x a_nil) e = some (.im (.tuple ds), e1) := by
  simp [r_x_cb, r_argsD, r_a_cons, r_a_nil, h, lookAll, lookR, frzR, c_tuple]
theorem cbA {bs : List Bool} (h : x e = some (.ac (bs.map PyData.bool), e1)) : x_cb c_all (a_cons x a_nil) e = some (.im (.bool (bs.all id)), e1) := by
  simp [r_x_cb, r_argsD, r_a_cons, r_a_nil, h, lookAll, lookR, frzR, c_all, unB_map]
theorem iseqA (h : x e = some (.ac ds, e1)) : i_seq x e = some (ds, e1) := by
  simp [r_i_seq, h, frzR]
theorem iseqL (h : x e = some (.im (.list ds), e1)) : i_seq x e = some (ds, e1) := by
  simp [r_i_seq, h, frzR]
theorem iseqT (h : x e = some (.im (.tuple ds), e1)) : i_seq x e = some (ds, e1) := by
  simp [r_i_seq, h, frzR]
theorem bang (h : x e = some (.im (.bool b), e1)) : t_of x e = some (b, e1) := by
  rw [r_t_of, h]
end
/-! calls -/
theorem callI {φ : List PyData → Option Rs} {dds ds ds' : List PyData} {fa : Fa} {e e1 : Ev} {d : PyData} (ha : argsI fa e = some (ds, e1)) (hd : ds ++ dds = ds') (h : φ ds' = some (.im d)) : x_call φ dds fa e = some (.im d, e1) := by
  rw [r_x_call, ha]
  simp only [hd, h]
theorem callA {φ : List PyData → Option Rs} {dds ds ds' cs : List PyData} {fa : Fa} {e e1 : Ev} (ha : argsI fa e = some (ds, e1)) (hd : ds ++ dds = ds') (h : φ ds' = some (.ac cs)) : x_call φ dds fa e = some (.ac cs, e1) := by
  rw [r_x_call, ha]
  simp only [hd, h]
theorem a0 {e : Ev} : argsI a_nil e = some ([], e) := rfl
theorem aI {f : Fe} {fa : Fa} {e e1 e2 : Ev} {d : PyData} {ds : List PyData} (h : f e = some (.im d, e1)) (k : argsI fa e1 = some (ds, e2)) : argsI (a_cons f fa) e = some (d :: ds, e2) := by
  rw [r_argsI] at k ⊢
  rw [r_a_cons, h]
  cases z : fa e1 with
  | none => rw [z] at k; cases k
  | some p =>
    obtain ⟨rs, e3⟩ := p
    rw [z] at k
    cases y : imAll rs with
    | none => simp only [y] at k; cases k
    | some es =>
      simp only [y, Option.some.injEq, Prod.mk.injEq] at k
      obtain ⟨rfl, rfl⟩ := k
      simp only [z, imAll, frzR, imR, y]
theorem aA {f : Fe} {fa : Fa} {e e1 e2 : Ev} {cs : List PyData} {ds : List PyData} (h : f e = some (.ac cs, e1)) (k : argsI fa e1 = some (ds, e2)) : argsI (a_cons f fa) e = some (.list cs :: ds, e2) := by
  rw [r_argsI] at k ⊢
  rw [r_a_cons, h]
  cases z : fa e1 with
  | none => rw [z] at k; cases k
  | some p =>
    obtain ⟨rs, e3⟩ := p
    rw [z] at k
    cases y : imAll rs with
    | none => simp only [y] at k; cases k
    | some es =>
      simp only [y, Option.some.injEq, Prod.mk.injEq] at k
      obtain ⟨rfl, rfl⟩ := k
      simp only [z, imAll, frzR, imR, y]
theorem vI {i : Nat} {e : Ev} {d : PyData} (h : e[i]? = some (some (.im d))) : x_var i e = some (.im d, e) := by
  rw [r_x_var, h]
theorem cI {d : PyData} {e : Ev} : x_c d e = some (.im d, e) := rfl
theorem binI {φ : PyData → PyData → Option Rs} {f g : Fe} {e e1 e2 : Ev} {a b : PyData} {r : Rs} (h1 : f e = some (.im a, e1)) (h2 : g e1 = some (.im b, e2)) (h : φ a b = some r) : x_bin φ f g e = some (r, e2) := by
  rw [r_x_bin, r_two, h1]
  simp only [h2, look2, lookR, frzR, h]
theorem binA {φ : PyData → PyData → Option Rs} {f g : Fe} {e e1 e2 : Ev} {a : PyData} {cs : List PyData} {r : Rs} (h1 : f e = some (.im a, e1)) (h2 : g e1 = some (.ac cs, e2)) (h : φ a (.list cs) = some r) : x_bin φ f g e = some (r, e2) := by
  rw [r_x_bin, r_two, h1]
  simp only [h2, look2, lookR, frzR, h]
theorem binAA {φ : PyData → PyData → Option Rs} {f g : Fe} {e e1 e2 : Ev} {as cs : List PyData} {r : Rs} (h1 : f e = some (.ac as, e1)) (h2 : g e1 = some (.ac cs, e2)) (h : φ (.list as) (.list cs) = some r) : x_bin φ f g e = some (r, e2) := by
  rw [r_x_bin, r_two, h1]
  simp only [h2, look2, lookR, frzR, h]
theorem binAI {φ : PyData → PyData → Option Rs} {f g : Fe} {e e1 e2 : Ev} {as : List PyData} {b : PyData} {r : Rs} (h1 : f e = some (.ac as, e1)) (h2 : g e1 = some (.im b, e2)) (h : φ (.list as) b = some r) : x_bin φ f g e = some (r, e2) := by
  rw [r_x_bin, r_two, h1]
  simp only [h2, look2, lookR, frzR, h]
theorem andT {f g : Fe} {e e1 : Ev} {o : Option (Rs × Ev)} (h : f e = some (.im (.bool true), e1)) (k : g e1 = o) : x_and f g e = o := by
  rw [r_x_and, h]
  exact k
theorem andF {f g : Fe} {e e1 : Ev} (h : f e = some (.im (.bool false), e1)) : x_and f g e = some (.im (.bool false), e1) := by
  rw [r_x_and, h]
theorem tandT {f g : Ft} {e e1 : Ev} {o : Option (Bool × Ev)} (h : f e = some (true, e1)) (k : g e1 = o) : t_and f g e = o := by
  rw [r_t_and, h]
  exact k
theorem tandF {f g : Ft} {e e1 : Ev} (h : f e = some (false, e1)) : t_and f g e = some (false, e1) := by
  rw [r_t_and, h]
theorem torT {f g : Ft} {e e1 : Ev} (h : f e = some (true, e1)) : t_or f g e = some (true, e1) := by
  rw [r_t_or, h]
theorem torF {f g : Ft} {e e1 : Ev} {o : Option (Bool × Ev)} (h : f e = some (false, e1)) (k : g e1 = o) : t_or f g e = o := by
  rw [r_t_or, h]
  exact k
theorem tnot {f : Ft} {e e1 : Ev} {b : Bool} (h : f e = some (b, e1)) : t_not f e = some (!b, e1) := by
  rw [r_t_not, h]
/-! ### loops that look for something -/
theorem forGo_some {α : Type} {γ : PyData → Ev → Option Ev} {S : List Nat} {fb : Fs} (J : Ev → Prop) (f : α → PyData) (g : α → Option Rs) : ∀ (l : List α) (e : Ev), J e →
    (∀ a ∈ l, ∀ e, J e → okS S e = true ∧ ∃ e2, γ (f a) e = some e2 ∧ ((∃ r e3, g a = some r ∧ fb e2 = some (.rt r e3)) ∨ (g a = none ∧ ∃ e3, fb e2 = some (.nx e3) ∧ J e3))) →
    (∃ r e3, l.findSome? g = some r ∧ forGo γ S fb (l.map f) e = some (.rt r e3)) ∨ (l.findSome? g = none ∧ ∃ e3, forGo γ S fb (l.map f) e = some (.nx e3) ∧ J e3)
  | [], e, h0, _ => .inr ⟨rfl, e, rfl, h0⟩
  | a :: l, e, h0, h => by
    obtain ⟨h1, e2, h2, h3⟩ := h a List.mem_cons_self e h0
    rw [List.map_cons, List.findSome?_cons]
    simp only [forGo, h1, h2, if_true]
    rcases h3 with ⟨r, e3, h4, h5⟩ | ⟨h4, e3, h5, h6⟩
    · exact .inl ⟨r, e3, by rw [h4], by rw [h5]⟩
    · rw [h4, h5]
      exact forGo_some J f g l e3 h6 fun x m => h x (List.mem_cons_of_mem _ m)
/-- no early end -/
theorem forGo_inv {α : Type} {γ : PyData → Ev → Option Ev} {S : List Nat} {fb : Fs} (f : α → PyData) : ∀ (l : List α) (J : List α → Ev → Prop) (e : Ev), J [] e →
    (∀ (pre : List α) (a : α) (post : List α), l = pre ++ a :: post → ∀ e, J pre e → okS S e = true ∧ ∃ e2 e3, γ (f a) e = some e2 ∧ (fb e2 = some (.nx e3) ∨ fb e2 = some (.ct e3)) ∧ J (pre ++ [a]) e3) →
    ∃ e3, forGo γ S fb (l.map f) e = some (.nx e3) ∧ J l e3
  | [], J, e, h0, _ => ⟨e, rfl, h0⟩
  | a :: l, J, e, h0, h => by
    obtain ⟨h1, e2, e3, h2, h3, h4⟩ := h [] a l rfl e h0
    obtain ⟨e4, h5, h6⟩ := forGo_inv f l (fun pre e => J (a :: pre) e) e3 h4 fun pre x post hl e hj => by
      have := h (a :: pre) x post (by rw [hl]; rfl) e hj
      exact this
    refine ⟨e4, ?_, h6⟩
    rw [List.map_cons]
    simp only [forGo, h1, h2, if_true]
    rcases h3 with h3 | h3
    · rw [h3]
      exact h5
    · rw [h3]
      exact h5
theorem findSome_congr {α β : Type} {g g' : α → Option β} : ∀ {l : List α}, (∀ a ∈ l, g a = g' a) → l.findSome? g = l.findSome? g'
  | [], _ => rfl
  | a :: l, h => by
    rw [List.findSome?_cons, List.findSome?_cons, h a List.mem_cons_self, findSome_congr fun x m => h x (List.mem_cons_of_mem _ m)]
theorem rngD1 (m : Nat) : rngD 1 m 1 = (List.range m).map fun k => nD (k + 1) := by
  unfold rngD
  (refine List.map_congr_left fun k _ => ?_)
  unfold nD
  congr 1
  omega
theorem rngD0 (m : Nat) : rngD 0 m 1 = (List.range m).map nD := by
  unfold rngD
  (refine List.map_congr_left fun k _ => ?_)
  unfold nD
  congr 1
  omega
theorem i_rng2_at {fa fb : Fe} {e e1 e2 : Ev} {m : Nat} (h1 : fa e = some (.im (.int 1), e1)) (h2 : fb e1 = some (.im (.int ((m : Int) + 1)), e2)) (hm : m ≤ 1000000) : i_rng2 fa fb e = some ((List.range m).map fun k => nD (k + 1), e2) := by
  rw [r_i_rng2, h1]
  simp only [h2]
  have c : (rgC 1 && rgC ((m : Int) + 1)) = true := by
    rw [Bool.and_eq_true]
    exact ⟨by decide, decide_eq_true (by omega)⟩
  rw [if_pos c, show ((m : Int) + 1 - 1).toNat = m by omega, rngD1]
theorem i_rng1_at {fa : Fe} {e e1 : Ev} {m : Nat} (h1 : fa e = some (.im (.int (m : Int)), e1)) (hm : m ≤ 1000000) : i_rng1 fa e = some ((List.range m).map nD, e1) := by
  rw [r_i_rng1, h1]
  have c : rgC (m : Int) = true := decide_eq_true (by omega)
  simp only [c, if_true]
  rw [show (m : Int).toNat = m by omega, rngD0]
end DL
namespace K58
open L2 PySem PySem.Spec PyProof.Rows
def top (i : Nat) : Stmt := PySem.Challenge.pw_sincemarks_k58_whole_bases_by_heights.main.body.getD i (.Pass ⟨0, 0, 0, 0⟩)
abbrev s_is_integer : Stmt := top 5
abbrev s_is_number : Stmt := top 6
abbrev s_is_natural : Stmt := top 7
abbrev s_check_version : Stmt := top 9
abbrev s_many_of : Stmt := top 11
abbrev s__upward : Stmt := top 12
abbrev s_path_of : Stmt := top 13
abbrev s_is_elder : Stmt := top 14
abbrev s_is_bases : Stmt := top 16
abbrev s_first_crossing : Stmt := top 17
abbrev s_is_plan : Stmt := top 18
abbrev s_crossing_of : Stmt := top 19
abbrev s_ask_bases : Stmt := top 21
abbrev s_ask_version : Stmt := top 22
abbrev s_chain_from : Stmt := top 24
abbrev s_sheet_from : Stmt := top 25
abbrev s_chain_of : Stmt := top 26
abbrev s_reads_by : Stmt := top 27
abbrev s_writes_by : Stmt := top 28
abbrev s_is_heights : Stmt := top 30
abbrev s_bases_by : Stmt := top 31
abbrev s_heights_of : Stmt := top 32
abbrev s_records_of : Stmt := top 33
abbrev s__law_feed : Stmt := top 35
abbrev s__law_next : Stmt := top 36
abbrev s__law_history : Stmt := top 37
abbrev s__law_elders : Stmt := top 38
abbrev s__law_higher : Stmt := top 39
abbrev s__law_crossing : Stmt := top 40
abbrev s__law_reads : Stmt := top 41
abbrev s__law_heights : Stmt := top 42
abbrev s__law_writes : Stmt := top 43
abbrev s__law_same : Stmt := top 44
abbrev s__law_all_at_most : Stmt := top 45
abbrev s__law_crossed_right : Stmt := top 46
abbrev s__law_led_right : Stmt := top 47
abbrev s__law_counts_right : Stmt := top 48
abbrev s__law_records_right : Stmt := top 49
abbrev s__law_by_heights : Stmt := top 50
abbrev s__law_all_rows : Stmt := top 51
abbrev s__law_small : Stmt := top 52
abbrev s_law : Stmt := top 53
def d_is_integer : He.DefD := ⟨("is_integer", none), "is_integer", "is_integer", defArgs s_is_integer, defBody s_is_integer, defScope s_is_integer, [], []⟩
def d_is_number : He.DefD := ⟨("is_number", none), "is_number", "is_number", defArgs s_is_number, defBody s_is_number, defScope s_is_number, [], []⟩
def d_is_natural : He.DefD := ⟨("is_natural", none), "is_natural", "is_natural", defArgs s_is_natural, defBody s_is_natural, defScope s_is_natural, [], []⟩
def d_check_version : He.DefD := ⟨("check_version", none), "check_version", "check_version", defArgs s_check_version, defBody s_check_version, defScope s_check_version, [.int 0], []⟩
def d_many_of : He.DefD := ⟨("many_of", none), "many_of", "many_of", defArgs s_many_of, defBody s_many_of, defScope s_many_of, [], []⟩
def d__upward : He.DefD := ⟨("_upward", none), "_upward", "_upward", defArgs s__upward, defBody s__upward, defScope s__upward, [], []⟩
def d_path_of : He.DefD := ⟨("path_of", none), "path_of", "path_of", defArgs s_path_of, defBody s_path_of, defScope s_path_of, [], []⟩
def d_is_elder : He.DefD := ⟨("is_elder", none), "is_elder", "is_elder", defArgs s_is_elder, defBody s_is_elder, defScope s_is_elder, [], []⟩
def d_is_bases : He.DefD := ⟨("is_bases", none), "is_bases", "is_bases", defArgs s_is_bases, defBody s_is_bases, defScope s_is_bases, [], []⟩
def d_first_crossing : He.DefD := ⟨("first_crossing", none), "first_crossing", "first_crossing", defArgs s_first_crossing, defBody s_first_crossing, defScope s_first_crossing, [], []⟩
def d_is_plan : He.DefD := ⟨("is_plan", none), "is_plan", "is_plan", defArgs s_is_plan, defBody s_is_plan, defScope s_is_plan, [], []⟩
def d_crossing_of : He.DefD := ⟨("crossing_of", none), "crossing_of", "crossing_of", defArgs s_crossing_of, defBody s_crossing_of, defScope s_crossing_of, [], []⟩
def d_ask_bases : He.DefD := ⟨("ask_bases", none), "ask_bases", "ask_bases", defArgs s_ask_bases, defBody s_ask_bases, defScope s_ask_bases, [], []⟩
def d_ask_version : He.DefD := ⟨("ask_version", none), "ask_version", "ask_version", defArgs s_ask_version, defBody s_ask_version, defScope s_ask_version, [], []⟩
def d_chain_from : He.DefD := ⟨("chain_from", none), "chain_from", "chain_from", defArgs s_chain_from, defBody s_chain_from, defScope s_chain_from, [], []⟩
def d_sheet_from : He.DefD := ⟨("sheet_from", none), "sheet_from", "sheet_from", defArgs s_sheet_from, defBody s_sheet_from, defScope s_sheet_from, [], []⟩
def d_chain_of : He.DefD := ⟨("chain_of", none), "chain_of", "chain_of", defArgs s_chain_of, defBody s_chain_of, defScope s_chain_of, [], []⟩
def d_reads_by : He.DefD := ⟨("reads_by", none), "reads_by", "reads_by", defArgs s_reads_by, defBody s_reads_by, defScope s_reads_by, [], []⟩
def d_writes_by : He.DefD := ⟨("writes_by", none), "writes_by", "writes_by", defArgs s_writes_by, defBody s_writes_by, defScope s_writes_by, [], []⟩
def d_is_heights : He.DefD := ⟨("is_heights", none), "is_heights", "is_heights", defArgs s_is_heights, defBody s_is_heights, defScope s_is_heights, [], []⟩
def d_bases_by : He.DefD := ⟨("bases_by", none), "bases_by", "bases_by", defArgs s_bases_by, defBody s_bases_by, defScope s_bases_by, [], []⟩
def d_heights_of : He.DefD := ⟨("heights_of", none), "heights_of", "heights_of", defArgs s_heights_of, defBody s_heights_of, defScope s_heights_of, [], []⟩
def d_records_of : He.DefD := ⟨("records_of", none), "records_of", "records_of", defArgs s_records_of, defBody s_records_of, defScope s_records_of, [], []⟩
def d__law_feed : He.DefD := ⟨("_law_feed", none), "_law_feed", "_law_feed", defArgs s__law_feed, defBody s__law_feed, defScope s__law_feed, [], []⟩
def d__law_next : He.DefD := ⟨("_law_next", none), "_law_next", "_law_next", defArgs s__law_next, defBody s__law_next, defScope s__law_next, [], []⟩
def d__law_history : He.DefD := ⟨("_law_history", none), "_law_history", "_law_history", defArgs s__law_history, defBody s__law_history, defScope s__law_history, [], []⟩
def d__law_elders : He.DefD := ⟨("_law_elders", none), "_law_elders", "_law_elders", defArgs s__law_elders, defBody s__law_elders, defScope s__law_elders, [], []⟩
def d__law_higher : He.DefD := ⟨("_law_higher", none), "_law_higher", "_law_higher", defArgs s__law_higher, defBody s__law_higher, defScope s__law_higher, [], []⟩
def d__law_crossing : He.DefD := ⟨("_law_crossing", none), "_law_crossing", "_law_crossing", defArgs s__law_crossing, defBody s__law_crossing, defScope s__law_crossing, [], []⟩
def d__law_reads : He.DefD := ⟨("_law_reads", none), "_law_reads", "_law_reads", defArgs s__law_reads, defBody s__law_reads, defScope s__law_reads, [], []⟩
def d__law_heights : He.DefD := ⟨("_law_heights", none), "_law_heights", "_law_heights", defArgs s__law_heights, defBody s__law_heights, defScope s__law_heights, [], []⟩
def d__law_writes : He.DefD := ⟨("_law_writes", none), "_law_writes", "_law_writes", defArgs s__law_writes, defBody s__law_writes, defScope s__law_writes, [], []⟩
def d__law_same : He.DefD := ⟨("_law_same", none), "_law_same", "_law_same", defArgs s__law_same, defBody s__law_same, defScope s__law_same, [], []⟩
def d__law_all_at_most : He.DefD := ⟨("_law_all_at_most", none), "_law_all_at_most", "_law_all_at_most", defArgs s__law_all_at_most, defBody s__law_all_at_most, defScope s__law_all_at_most, [], []⟩
def d__law_crossed_right : He.DefD := ⟨("_law_crossed_right", none), "_law_crossed_right", "_law_crossed_right", defArgs s__law_crossed_right, defBody s__law_crossed_right, defScope s__law_crossed_right, [], []⟩
def d__law_led_right : He.DefD := ⟨("_law_led_right", none), "_law_led_right", "_law_led_right", defArgs s__law_led_right, defBody s__law_led_right, defScope s__law_led_right, [], []⟩
def d__law_counts_right : He.DefD := ⟨("_law_counts_right", none), "_law_counts_right", "_law_counts_right", defArgs s__law_counts_right, defBody s__law_counts_right, defScope s__law_counts_right, [], []⟩
def d__law_records_right : He.DefD := ⟨("_law_records_right", none), "_law_records_right", "_law_records_right", defArgs s__law_records_right, defBody s__law_records_right, defScope s__law_records_right, [], []⟩
def d__law_by_heights : He.DefD := ⟨("_law_by_heights", none), "_law_by_heights", "_law_by_heights", defArgs s__law_by_heights, defBody s__law_by_heights, defScope s__law_by_heights, [], []⟩
def d__law_all_rows : He.DefD := ⟨("_law_all_rows", none), "_law_all_rows", "_law_all_rows", defArgs s__law_all_rows, defBody s__law_all_rows, defScope s__law_all_rows, [], []⟩
def d__law_small : He.DefD := ⟨("_law_small", none), "_law_small", "_law_small", defArgs s__law_small, defBody s__law_small, defScope s__law_small, [], []⟩
def d_law : He.DefD := ⟨("law", none), "law", "law", defArgs s_law, defBody s_law, defScope s_law, [], []⟩
def fn : List He.DefD := [d_is_integer, d_is_number, d_is_natural, d_check_version, d_many_of, d__upward, d_path_of, d_is_elder, d_is_bases, d_first_crossing, d_is_plan, d_crossing_of, d_ask_bases, d_ask_version, d_chain_from, d_sheet_from, d_chain_of, d_reads_by, d_writes_by, d_is_heights, d_bases_by, d_heights_of, d_records_of, d__law_feed, d__law_next, d__law_history, d__law_elders, d__law_higher, d__law_crossing, d__law_reads, d__law_heights, d__law_writes, d__law_same, d__law_all_at_most, d__law_crossed_right, d__law_led_right, d__law_counts_right, d__law_records_right, d__law_by_heights, d__law_all_rows, d__law_small, d_law]
def fa : List He.Fa := [.glo "is_integer", .glo "is_number", .glo "is_natural", .glo "check_version", .glo "many_of", .glo "_upward", .glo "path_of", .glo "is_elder", .glo "is_bases", .glo "first_crossing", .glo "is_plan", .glo "crossing_of", .glo "ask_bases", .glo "ask_version", .glo "chain_from", .glo "sheet_from", .glo "chain_of", .glo "reads_by", .glo "writes_by", .glo "is_heights", .glo "bases_by", .glo "heights_of", .glo "records_of", .glo "_law_feed", .glo "_law_next", .glo "_law_history", .glo "_law_elders", .glo "_law_higher", .glo "_law_crossing", .glo "_law_reads", .glo "_law_heights", .glo "_law_writes", .glo "_law_same", .glo "_law_all_at_most", .glo "_law_crossed_right", .glo "_law_led_right", .glo "_law_counts_right", .glo "_law_records_right", .glo "_law_by_heights", .glo "_law_all_rows", .glo "_law_small", .glo "law", .free "ValueError", .free "abs", .free "all", .free "bool", .free "enumerate", .free "int", .free "isinstance", .free "len", .free "list", .free "max", .free "range", .free "reversed", .free "set", .free "sorted", .free "tuple", .free "zip"]
def names0 : List Str := ["BookError", "MarkError", "NotUsable", "_law_all_at_most", "_law_all_rows", "_law_by_heights", "_law_counts_right", "_law_crossed_right", "_law_crossing", "_law_elders", "_law_feed", "_law_heights", "_law_higher", "_law_history", "_law_led_right", "_law_next", "_law_reads", "_law_records_right", "_law_same", "_law_small", "_law_writes", "_upward", "ask_bases", "ask_version", "bases_by", "chain_from", "chain_of", "check_version", "crossing_of", "first_crossing"]
def names1 : List Str := ["heights_of", "is_bases", "is_elder", "is_heights", "is_integer", "is_natural", "is_number", "is_plan", "many_of", "path_of", "reads_by", "records_of", "sheet_from", "writes_by"]
def names : List Str := names0 ++ names1
abbrev R : PySem.W.OpenRow := PySem.W.OpenLaw.row PySem.Challenge.rw_sincemarks_k58_whole_bases_by_heights
abbrev hk : PySem.W.Hook := He.hookD 4 fa fn
def ob (s : PySem.W.SharedT) : He.AlD := He.obsDG 4 fa fn (HandSHeadRun.getT s)
theorem ob_eq (s : PySem.W.SharedT) : ob s = hk.obs s.abs := He.obsDG_eq (HandSHeadRun.getT_eq s)
theorem run (w : World) : HandSHeadRun.RunEq R (PySem.W.view R.prog [53]) hk ob 6000 names w := by
  intro os
  kernel_rfl
end K58
namespace K58
open PySem PySem.Spec PyProof.Rows L2 DL
def g_is_integer : Fs :=
  (s_ret (x_and (x_isi .int (x_var 0)) (x_not (x_isi .bool (x_var 0)))))
def F_is_integer : List PyData → Option Rs := runF 1 0 g_is_integer
def g_many_of : Fs :=
  (s_ret (x_cb c_len (a_cons (x_var 0) a_nil)))
def F_many_of : List PyData → Option Rs := runF 1 0 g_many_of
def g__upward : Fs :=
  (s_seq (s_set 2 (x_lst a_nil))
  (s_seq (s_while (fuI 1) (t_of (x_bin p_gt (x_var 1) (x_c (.int 0))))
  (s_seq (s_setF 1 (x_ix (x_var 0) (x_bin p_sub (x_var 1) (x_c (.int 1)))))
  (s_seq (s_drop (x_app 2 (x_var 1)))
  s_nx)))
  (s_seq (s_ret (x_var 2))
  s_nx)))
def F__upward : List PyData → Option Rs := runF 2 1 g__upward
def g_chain_from : Fs :=
  (s_seq (s_set 2 (x_lst a_nil))
  (s_seq (s_while (fuI 1) (t_of (x_bin p_gt (x_var 1) (x_c (.int 0))))
  (s_seq (s_drop (x_app 2 (x_var 1)))
  (s_seq (s_setF 1 (x_ix (x_var 0) (x_bin p_sub (x_var 1) (x_c (.int 1)))))
  s_nx)))
  (s_seq (s_ret (x_var 2))
  s_nx)))
def F_chain_from : List PyData → Option Rs := runF 2 1 g_chain_from
def g__law_feed : Fs :=
  (s_seq (s_setF 1 (x_c (.int 88811)))
  (s_seq (s_for (i_seq (x_var 0)) (g_name 2) [2]
  (s_setF 1 (x_bin p_mod (x_cb c_int (a_cons (x_bin p_add (x_bin p_mul (x_var 1) (x_c (.int 389))) (x_var 2)) a_nil)) (x_c (.int 999983)))))
  (s_seq (s_ret (x_lst (a_cons (x_cb c_list (a_cons (x_var 0) a_nil)) (a_cons (x_c (.int 0)) (a_cons (x_c (.int 0)) (a_cons (x_var 1) a_nil))))))
  s_nx)))
def F__law_feed : List PyData → Option Rs := runF 1 2 g__law_feed
def g__law_next : Fs :=
  (s_seq (s_if (t_of (x_bin p_eq (x_cb c_len (a_cons (x_ix (x_var 0) (x_c (.int 0))) a_nil)) (x_c (.int 0))))
  (s_ret (x_c (.int 0)))
  s_nx)
  (s_seq (s_if (t_and (t_of (x_bin p_eq (x_ix (x_var 0) (x_c (.int 2))) (x_c (.int 0)))) (t_of (x_bin p_lt (x_ix (x_var 0) (x_c (.int 1))) (x_cb c_len (a_cons (x_ix (x_var 0) (x_c (.int 0))) a_nil)))))
  (s_seq (s_setF 2 (x_ix (x_ix (x_var 0) (x_c (.int 0))) (x_ix (x_var 0) (x_c (.int 1)))))
  (s_seq (s_put 0 (x_bin p_add (x_ix (x_var 0) (x_c (.int 1))) (x_c (.int 1))) (x_c (.int 1)))
  (s_seq (s_if (t_of (x_bin p_ge (x_cb c_abs (a_cons (x_var 2) a_nil)) (x_bin p_pow (x_c (.int 10)) (x_c (.int 18)))))
  (s_put 0 (x_bin p_mod (x_cb c_int (a_cons (x_cb c_abs (a_cons (x_var 2) a_nil)) a_nil)) (x_bin p_mul (x_bin p_mul (x_bin p_pow (x_c (.int 10)) (x_c (.int 64))) (x_bin p_pow (x_c (.int 10)) (x_c (.int 64)))) (x_bin p_pow (x_c (.int 10)) (x_c (.int 64))))) (x_c (.int 2)))
  (s_put 0 (x_bin p_mod (x_cb c_int (a_cons (x_bin p_add (x_bin p_add (x_ix (x_var 0) (x_c (.int 3))) (x_bin p_mul (x_c (.int 7309)) (x_var 2))) (x_bin p_mul (x_c (.int 3)) (x_ix (x_var 0) (x_c (.int 1))))) a_nil)) (x_c (.int 999983))) (x_c (.int 3))))
  s_nx)))
  s_nx)
  (s_seq (s_if (t_of (x_bin p_gt (x_ix (x_var 0) (x_c (.int 2))) (x_c (.int 0))))
  (s_seq (s_setF 3 (x_ix (x_var 0) (x_c (.int 2))))
  (s_seq (s_put 0 (x_bin p_div (x_var 3) (x_var 1)) (x_c (.int 2)))
  (s_seq (s_ret (x_bin p_mod (x_cb c_int (a_cons (x_var 3) a_nil)) (x_var 1)))
  s_nx)))
  s_nx)
  (s_seq (s_put 0 (x_bin p_mod (x_cb c_int (a_cons (x_bin p_add (x_bin p_mul (x_ix (x_var 0) (x_c (.int 3))) (x_c (.int 52361))) (x_c (.int 30713))) a_nil)) (x_c (.int 999983))) (x_c (.int 3)))
  (s_seq (s_ret (x_bin p_mod (x_cb c_int (a_cons (x_bin p_div (x_ix (x_var 0) (x_c (.int 3))) (x_c (.int 17))) a_nil)) (x_var 1)))
  s_nx)))))
def F__law_next : List PyData → List PyData → Option (Rs × List PyData) := runM 1 2 g__law_next
def g__law_elders : Fs :=
  (s_seq (s_set 1 (x_lst (a_cons (x_lst a_nil) a_nil)))
  (s_seq (s_for (i_seq (x_var 0)) (g_name 2) [2]
  (s_drop (x_app 1 (x_bin p_add (x_lst (a_cons (x_var 2) a_nil)) (x_ix (x_var 1) (x_var 2))))))
  (s_seq (s_ret (x_var 1))
  s_nx)))
def F__law_elders : List PyData → Option Rs := runF 1 2 g__law_elders
def g__law_higher : Fs :=
  (s_seq (s_set 2 (x_lst a_nil))
  (s_seq (s_for (i_rng2 (x_c (.int 1)) (x_cb c_len (a_cons (x_var 1) a_nil))) (g_name 3) [3]
  (s_seq (s_setF 4 (x_c (.int 0)))
  (s_seq (s_for (i_seq (x_rev (x_ix (x_var 1) (x_var 3)))) (g_name 5) [5]
  (s_if (t_and (t_of (x_bin p_gt (x_var 5) (x_c (.int 0)))) (t_of (x_bin p_gt (x_ix (x_var 0) (x_bin p_sub (x_var 5) (x_c (.int 1)))) (x_ix (x_var 0) (x_bin p_sub (x_var 3) (x_c (.int 1)))))))
  (s_setF 4 (x_var 5))
  s_nx))
  (s_seq (s_drop (x_app 2 (x_var 4)))
  s_nx))))
  (s_seq (s_ret (x_cb c_tuple (a_cons (x_var 2) a_nil)))
  s_nx)))
def F__law_higher : List PyData → Option Rs := runF 2 4 g__law_higher
def g__law_crossing : Fs :=
  (s_seq (s_for (i_rng2 (x_c (.int 1)) (x_cb c_len (a_cons (x_var 0) a_nil))) (g_name 2) [2]
  (s_for (i_seq (x_sl (x_rev (x_ix (x_var 0) (x_var 2))) (o_at (x_c (.int 1))) o_no)) (g_name 3) [3]
  (s_seq (s_setF 4 (x_ix (x_var 1) (x_bin p_sub (x_var 2) (x_c (.int 1)))))
  (s_seq (s_if (t_and (t_of (x_bin p_in (x_var 4) (x_ix (x_var 0) (x_var 3)))) (t_and (t_of (x_bin p_ne (x_var 4) (x_ix (x_var 1) (x_bin p_sub (x_var 3) (x_c (.int 1)))))) (t_of (x_bin p_notin (x_var 4) (x_ix (x_var 0) (x_ix (x_var 1) (x_bin p_sub (x_var 3) (x_c (.int 1)))))))))
  (s_ret (x_tup (a_cons (x_var 3) (a_cons (x_var 2) a_nil))))
  s_nx)
  s_nx))))
  (s_seq (s_ret (x_c .none))
  s_nx))
def F__law_crossing : List PyData → Option Rs := runF 2 3 g__law_crossing
def g__law_reads : Fs :=
  (s_seq (s_set 1 (x_lst (a_cons (x_c (.int 0)) a_nil)))
  (s_seq (s_for (i_seq (x_var 0)) (g_name 2) [2]
  (s_drop (x_app 1 (x_bin p_add (x_c (.int 1)) (x_ix (x_var 1) (x_var 2))))))
  (s_seq (s_ret (x_var 1))
  s_nx)))
def F__law_reads : List PyData → Option Rs := runF 1 2 g__law_reads
def g__law_writes : Fs :=
  (s_seq (s_set 2 (x_rep (a_cons (x_c (.int 0)) a_nil) (x_cb c_len (a_cons (x_var 1) a_nil))))
  (s_seq (s_for (i_rng2 (x_c (.int 1)) (x_cb c_len (a_cons (x_var 0) a_nil))) (g_name 3) [3]
  (s_for (i_seq (x_bin p_add (x_lst (a_cons (x_var 3) a_nil)) (x_ix (x_var 0) (x_var 3)))) (g_name 4) [4]
  (s_if (t_of (x_bin p_gt (x_var 4) (x_ix (x_var 1) (x_bin p_sub (x_var 3) (x_c (.int 1))))))
  (s_put 2 (x_bin p_add (x_ix (x_var 2) (x_bin p_sub (x_var 4) (x_c (.int 1)))) (x_c (.int 1))) (x_bin p_sub (x_var 4) (x_c (.int 1))))
  s_nx)))
  (s_seq (s_ret (x_var 2))
  s_nx)))
def F__law_writes : List PyData → Option Rs := runF 2 3 g__law_writes
def g__law_same : Fs :=
  (s_seq (s_if (t_or (t_not (t_of (x_isi .tuple (x_var 0)))) (t_of (x_bin p_ne (x_cb c_len (a_cons (x_var 0) a_nil)) (x_cb c_len (a_cons (x_var 1) a_nil)))))
  (s_ret (x_c (.bool false)))
  s_nx)
  (s_seq (s_for (i_seq (x_var 0)) (g_name 2) [2]
  (s_if (t_or (t_not (t_of (x_isi .int (x_var 2)))) (t_of (x_isi .bool (x_var 2))))
  (s_ret (x_c (.bool false)))
  s_nx))
  (s_seq (s_ret (x_bin p_eq (x_var 0) (x_cb c_tuple (a_cons (x_var 1) a_nil))))
  s_nx)))
def F__law_same : List PyData → Option Rs := runF 2 1 g__law_same
def g__law_all_at_most : Fs :=
  (s_ret (x_cb c_all (a_cons (x_lc (i_zip (x_var 0) (x_var 1)) (g_tup [2, 3]) t_yes (x_bin p_le (x_var 2) (x_var 3)) [2, 3]) a_nil)))
def F__law_all_at_most : List PyData → Option Rs := runF 2 2 g__law_all_at_most
def g__law_all_rows : Fs :=
  (s_seq (s_setF 1 (x_lst (a_cons (x_tup a_nil) a_nil)))
  (s_seq (s_for (i_seq (x_var 0)) (g_name 2) [2]
  (s_seq (s_set 3 (x_lst a_nil))
  (s_seq (s_for (i_seq (x_cb c_list (a_cons (x_var 1) a_nil))) (g_name 4) [4]
  (s_drop (x_ext 3 (x_lc (i_seq (x_var 2)) (g_name 5) t_yes (x_bin p_add (x_var 4) (x_tup (a_cons (x_var 5) a_nil))) [5]))))
  (s_seq (s_fz 3 (s_setF 1 (x_var 3)))
  s_nx))))
  (s_seq (s_ret (x_var 1))
  s_nx)))
def F__law_all_rows : List PyData → Option Rs := runF 1 5 g__law_all_rows
def g_is_number : Fs :=
  (s_ret (x_and (x_call F_is_integer [] (a_cons (x_var 0) a_nil)) (x_bin p_ge (x_var 0) (x_c (.int 0)))))
def F_is_number : List PyData → Option Rs := runF 1 0 g_is_number
def g_is_natural : Fs :=
  (s_ret (x_and (x_call F_is_integer [] (a_cons (x_var 0) a_nil)) (x_bin p_ge (x_var 0) (x_c (.int 1)))))
def F_is_natural : List PyData → Option Rs := runF 1 0 g_is_natural
def g__law_history : Fs :=
  (s_seq (s_setF 2 (x_callM F__law_next [] (a_cons (x_var 0) (a_cons (x_c (.int 4)) a_nil))))
  (s_seq (s_set 3 (x_lst a_nil))
  (s_seq (s_for (i_rng2 (x_c (.int 1)) (x_bin p_add (x_var 1) (x_c (.int 1)))) (g_name 4) [4]
  (s_if (t_of (x_bin p_eq (x_var 2) (x_c (.int 0))))
  (s_drop (x_app 3 (x_bin p_sub (x_var 4) (x_c (.int 1)))))
  (s_if (t_of (x_bin p_eq (x_var 2) (x_c (.int 1))))
  (s_drop (x_app 3 (x_bin p_div (x_bin p_sub (x_var 4) (x_c (.int 1))) (x_c (.int 2)))))
  (s_if (t_of (x_bin p_eq (x_var 2) (x_c (.int 2))))
  (s_drop (x_app 3 (x_callM F__law_next [] (a_cons (x_var 0) (a_cons (x_var 4) a_nil)))))
  (s_drop (x_app 3 (x_cb c_max2 (a_cons (x_c (.int 0)) (a_cons (x_bin p_sub (x_bin p_sub (x_var 4) (x_c (.int 1))) (x_bin p_mod (x_cb c_int (a_cons (x_bin p_div (x_var 4) (x_c (.int 3))) a_nil)) (x_c (.int 3)))) a_nil)))))))))
  (s_seq (s_ret (x_cb c_tuple (a_cons (x_var 3) a_nil)))
  s_nx))))
def F__law_history : List PyData → List PyData → Option (Rs × List PyData) := runM 1 3 g__law_history
def g__law_heights : Fs :=
  (s_seq (s_setF 1 (x_call F__law_reads [] (a_cons (x_var 0) a_nil)))
  (s_seq (s_setF 2 (x_cb c_maxA (a_cons (x_var 1) a_nil)))
  (s_seq (s_ret (x_cb c_tuple (a_cons (x_lc (i_seq (x_sl (x_var 1) (o_at (x_c (.int 1))) o_no)) (g_name 3) t_yes (x_bin p_sub (x_bin p_add (x_var 2) (x_c (.int 1))) (x_var 3)) [3]) a_nil)))
  s_nx)))
def F__law_heights : List PyData → Option Rs := runF 1 3 g__law_heights
def g_check_version : Fs :=
  (s_if (t_or (t_not (t_of (x_call F_is_number [] (a_cons (x_var 2) a_nil)))) (t_not (t_of (x_chain p_le p_le (x_var 3) (x_var 2) (x_cb c_len (a_cons (x_var 0) a_nil))))))
  s_no
  s_nx)
def F_check_version : List PyData → Option Rs := runF 4 0 g_check_version
def g_ask_version : Fs :=
  (s_if (t_not (t_and (t_of (x_call F_is_number [] (a_cons (x_var 2) a_nil))) (t_of (x_chain p_le p_le (x_var 3) (x_var 2) (x_call F_many_of [] (a_cons (x_var 0) a_nil))))))
  s_no
  s_nx)
def F_ask_version : List PyData → Option Rs := runF 4 0 g_ask_version
def g_is_heights : Fs :=
  (s_seq (s_if (t_or (t_not (t_of (x_isi .tuple (x_var 1)))) (t_of (x_bin p_ne (x_cb c_len (a_cons (x_var 1) a_nil)) (x_cb c_len (a_cons (x_var 0) a_nil)))))
  (s_ret (x_c (.bool false)))
  s_nx)
  (s_seq (s_ret (x_cb c_all (a_cons (x_lc (i_seq (x_var 1)) (g_name 2) t_yes (x_call F_is_natural [] (a_cons (x_var 2) a_nil)) [2]) a_nil)))
  s_nx))
def F_is_heights : List PyData → Option Rs := runF 2 1 g_is_heights
def g_path_of : Fs :=
  (s_seq (s_drop (x_call F_check_version [.int 0] (a_cons (x_var 0) (a_cons (x_c (.str "version")) (a_cons (x_var 1) a_nil)))))
  (s_seq (s_setF 2 (x_bin p_add (x_lst (a_cons (x_var 1) a_nil)) (x_call F__upward [] (a_cons (x_var 0) (a_cons (x_var 1) a_nil)))))
  (s_seq (s_ret (x_cb c_tuple (a_cons (x_lc (i_rev (x_var 2)) (g_name 3) (t_of (x_bin p_gt (x_var 3) (x_c (.int 0)))) (x_var 3) [3]) a_nil)))
  s_nx)))
def F_path_of : List PyData → Option Rs := runF 2 2 g_path_of
def g_is_elder : Fs :=
  (s_seq (s_drop (x_call F_check_version [.int 0] (a_cons (x_var 0) (a_cons (x_c (.str "one")) (a_cons (x_var 1) a_nil)))))
  (s_seq (s_drop (x_call F_check_version [.int 0] (a_cons (x_var 0) (a_cons (x_c (.str "other")) (a_cons (x_var 2) a_nil)))))
  (s_seq (s_ret (x_bin p_in (x_var 1) (x_call F__upward [] (a_cons (x_var 0) (a_cons (x_var 2) a_nil)))))
  s_nx)))
def F_is_elder : List PyData → Option Rs := runF 3 0 g_is_elder
def g_bases_by : Fs :=
  (s_seq (s_if (t_not (t_of (x_call F_is_heights [] (a_cons (x_var 0) (a_cons (x_var 1) a_nil)))))
  s_no
  s_nx)
  (s_seq (s_set 2 (x_lst a_nil))
  (s_seq (s_for (i_zip (x_var 1) (x_var 0)) (g_tup [3, 4]) [3, 4]
  (s_seq (s_setF 5 (x_var 4))
  (s_seq (s_while (fuI 5) (t_and (t_of (x_bin p_ne (x_var 5) (x_c (.int 0)))) (t_of (x_bin p_le (x_ix (x_var 1) (x_bin p_sub (x_var 5) (x_c (.int 1)))) (x_var 3))))
  (s_setF 5 (x_ix (x_var 0) (x_bin p_sub (x_var 5) (x_c (.int 1))))))
  (s_seq (s_drop (x_app 2 (x_var 5)))
  s_nx))))
  (s_seq (s_ret (x_cb c_tuple (a_cons (x_var 2) a_nil)))
  s_nx))))
def F_bases_by : List PyData → Option Rs := runF 2 4 g_bases_by
def g_is_bases : Fs :=
  (s_seq (s_if (t_not (t_and (t_of (x_isi .tuple (x_var 1))) (t_of (x_bin p_eq (x_cb c_len (a_cons (x_var 1) a_nil)) (x_call F_many_of [] (a_cons (x_var 0) a_nil))))))
  (s_ret (x_c (.bool false)))
  s_nx)
  (s_seq (s_for (i_enum (x_var 1)) (g_tup [2, 3]) [2, 3]
  (s_if (t_not (t_and (t_of (x_call F_is_number [] (a_cons (x_var 3) a_nil))) (t_and (t_of (x_bin p_le (x_var 3) (x_var 2))) (t_of (x_call F_is_elder [] (a_cons (x_var 0) (a_cons (x_var 3) (a_cons (x_bin p_add (x_var 2) (x_c (.int 1))) a_nil))))))))
  (s_ret (x_c (.bool false)))
  s_nx))
  (s_seq (s_ret (x_c (.bool true)))
  s_nx)))
def F_is_bases : List PyData → Option Rs := runF 2 2 g_is_bases
def g_first_crossing : Fs :=
  (s_seq (s_for (i_rng2 (x_c (.int 1)) (x_bin p_add (x_call F_many_of [] (a_cons (x_var 0) a_nil)) (x_c (.int 1)))) (g_name 2) [2]
  (s_seq (s_setF 3 (x_ix (x_var 1) (x_bin p_sub (x_var 2) (x_c (.int 1)))))
  (s_seq (s_for (i_seq (x_call F_path_of [] (a_cons (x_var 0) (a_cons (x_var 2) a_nil)))) (g_name 4) [4]
  (s_if (t_and (t_of (x_bin p_lt (x_var 3) (x_var 4))) (t_of (x_bin p_lt (x_ix (x_var 1) (x_bin p_sub (x_var 4) (x_c (.int 1)))) (x_var 3))))
  (s_ret (x_tup (a_cons (x_var 4) (a_cons (x_var 2) a_nil))))
  s_nx))
  s_nx)))
  (s_seq (s_ret (x_c .none))
  s_nx))
def F_first_crossing : List PyData → Option Rs := runF 2 3 g_first_crossing
def g_sheet_from : Fs :=
  (s_ret (x_cb c_tuple (a_cons (x_lc (i_seq (x_call F_path_of [] (a_cons (x_var 0) (a_cons (x_var 2) a_nil)))) (g_name 3) (t_of (x_bin p_gt (x_var 3) (x_ix (x_var 1) (x_bin p_sub (x_var 2) (x_c (.int 1)))))) (x_var 3) [3]) a_nil)))
def F_sheet_from : List PyData → Option Rs := runF 3 1 g_sheet_from
def g_records_of : Fs :=
  (s_seq (s_setF 3 (x_call F_bases_by [] (a_cons (x_var 0) (a_cons (x_var 1) a_nil))))
  (s_seq (s_if (t_or (t_not (t_of (x_call F_is_number [] (a_cons (x_var 2) a_nil)))) (t_of (x_bin p_gt (x_var 2) (x_cb c_len (a_cons (x_var 0) a_nil)))))
  s_no
  s_nx)
  (s_seq (s_set 4 (x_lst a_nil))
  (s_seq (s_setF 5 (x_var 2))
  (s_seq (s_while (fuI 5) (t_of (x_bin p_ne (x_var 5) (x_c (.int 0))))
  (s_seq (s_drop (x_app 4 (x_var 5)))
  (s_seq (s_setF 5 (x_ix (x_var 3) (x_bin p_sub (x_var 5) (x_c (.int 1)))))
  s_nx)))
  (s_seq (s_ret (x_cb c_tuple (a_cons (x_var 4) a_nil)))
  s_nx))))))
def F_records_of : List PyData → Option Rs := runF 3 3 g_records_of
def g_is_plan : Fs :=
  (s_ret (x_and (x_call F_is_bases [] (a_cons (x_var 0) (a_cons (x_var 1) a_nil))) (x_bin p_is (x_call F_first_crossing [] (a_cons (x_var 0) (a_cons (x_var 1) a_nil))) (x_c .none))))
def F_is_plan : List PyData → Option Rs := runF 2 0 g_is_plan
def g_crossing_of : Fs :=
  (s_seq (s_if (t_not (t_of (x_call F_is_bases [] (a_cons (x_var 0) (a_cons (x_var 1) a_nil)))))
  s_no
  s_nx)
  (s_seq (s_ret (x_call F_first_crossing [] (a_cons (x_var 0) (a_cons (x_var 1) a_nil))))
  s_nx))
def F_crossing_of : List PyData → Option Rs := runF 2 0 g_crossing_of
def g_ask_bases : Fs :=
  (s_if (t_not (t_of (x_call F_is_bases [] (a_cons (x_var 0) (a_cons (x_var 1) a_nil)))))
  s_no
  s_nx)
def F_ask_bases : List PyData → Option Rs := runF 2 0 g_ask_bases
def g_chain_of : Fs :=
  (s_seq (s_drop (x_call F_ask_bases [] (a_cons (x_var 0) (a_cons (x_var 1) a_nil))))
  (s_seq (s_drop (x_call F_ask_version [] (a_cons (x_var 0) (a_cons (x_c (.str "version")) (a_cons (x_var 2) (a_cons (x_c (.int 0)) a_nil))))))
  (s_seq (s_ret (x_cb c_tuple (a_cons (x_call F_chain_from [] (a_cons (x_var 1) (a_cons (x_var 2) a_nil))) a_nil)))
  s_nx)))
def F_chain_of : List PyData → Option Rs := runF 3 0 g_chain_of
def g_reads_by : Fs :=
  (s_seq (s_drop (x_call F_ask_bases [] (a_cons (x_var 0) (a_cons (x_var 1) a_nil))))
  (s_seq (s_set 2 (x_lst (a_cons (x_c (.int 0)) a_nil)))
  (s_seq (s_for (i_seq (x_var 1)) (g_name 3) [3]
  (s_drop (x_app 2 (x_bin p_add (x_ix (x_var 2) (x_var 3)) (x_c (.int 1))))))
  (s_seq (s_ret (x_cb c_tuple (a_cons (x_var 2) a_nil)))
  s_nx))))
def F_reads_by : List PyData → Option Rs := runF 2 2 g_reads_by
def g_writes_by : Fs :=
  (s_seq (s_drop (x_call F_ask_bases [] (a_cons (x_var 0) (a_cons (x_var 1) a_nil))))
  (s_seq (s_set 2 (x_rep (a_cons (x_c (.int 0)) a_nil) (x_bin p_add (x_call F_many_of [] (a_cons (x_var 0) a_nil)) (x_c (.int 1)))))
  (s_seq (s_for (i_rng2 (x_c (.int 1)) (x_bin p_add (x_call F_many_of [] (a_cons (x_var 0) a_nil)) (x_c (.int 1)))) (g_name 3) [3]
  (s_for (i_seq (x_call F_sheet_from [] (a_cons (x_var 0) (a_cons (x_var 1) (a_cons (x_var 3) a_nil))))) (g_name 4) [4]
  (s_augI (fun i j => i + j) 2 (x_var 4) (x_c (.int 1)))))
  (s_seq (s_ret (x_cb c_tuple (a_cons (x_sl (x_var 2) (o_at (x_c (.int 1))) o_no) a_nil)))
  s_nx))))
def F_writes_by : List PyData → Option Rs := runF 2 3 g_writes_by
def g__law_crossed_right : Fs :=
  (s_seq (s_setF 3 (x_call F_crossing_of [] (a_cons (x_var 0) (a_cons (x_var 2) a_nil))))
  (s_seq (s_setF 4 (x_call F__law_crossing [] (a_cons (x_var 1) (a_cons (x_var 2) a_nil))))
  (s_seq (s_setF 5 (x_call F_is_plan [] (a_cons (x_var 0) (a_cons (x_var 2) a_nil))))
  (s_seq (s_if (t_or (t_of (x_bin p_isnot (x_call F_is_bases [] (a_cons (x_var 0) (a_cons (x_var 2) a_nil))) (x_c (.bool true)))) (t_or (t_not (t_of (x_isi .bool (x_var 5)))) (t_of (x_bin p_ne (x_var 5) (x_bin p_is (x_var 4) (x_c .none))))))
  (s_ret (x_c (.bool false)))
  s_nx)
  (s_seq (s_if (t_of (x_bin p_is (x_var 4) (x_c .none)))
  (s_ret (x_bin p_is (x_var 3) (x_c .none)))
  s_nx)
  (s_seq (s_ret (x_call F__law_same [] (a_cons (x_var 3) (a_cons (x_var 4) a_nil))))
  s_nx))))))
def F__law_crossed_right : List PyData → Option Rs := runF 3 3 g__law_crossed_right
def g_heights_of : Fs :=
  (s_seq (s_if (t_not (t_of (x_call F_is_bases [] (a_cons (x_var 0) (a_cons (x_var 1) a_nil)))))
  s_no
  s_nx)
  (s_seq (s_setF 2 (x_call F_reads_by [] (a_cons (x_var 0) (a_cons (x_var 1) a_nil))))
  (s_seq (s_setF 3 (x_cb c_maxA (a_cons (x_var 2) a_nil)))
  (s_seq (s_ret (x_cb c_tuple (a_cons (x_lc (i_seq (x_sl (x_var 2) (o_at (x_c (.int 1))) o_no)) (g_name 4) t_yes (x_bin p_sub (x_bin p_add (x_var 3) (x_c (.int 1))) (x_var 4)) [4]) a_nil)))
  s_nx))))
def F_heights_of : List PyData → Option Rs := runF 2 3 g_heights_of
def g__law_counts_right : Fs :=
  (s_ret (x_and (x_call F__law_same [] (a_cons (x_call F_reads_by [] (a_cons (x_var 0) (a_cons (x_var 2) a_nil))) (a_cons (x_call F__law_reads [] (a_cons (x_var 2) a_nil)) a_nil))) (x_call F__law_same [] (a_cons (x_call F_writes_by [] (a_cons (x_var 0) (a_cons (x_var 2) a_nil))) (a_cons (x_call F__law_writes [] (a_cons (x_var 1) (a_cons (x_var 2) a_nil))) a_nil)))))
def F__law_counts_right : List PyData → Option Rs := runF 3 0 g__law_counts_right
def g__law_records_right : Fs :=
  (s_seq (s_setF 3 (x_call F__law_reads [] (a_cons (x_var 1) a_nil)))
  (s_seq (s_for (i_rng1 (x_cb c_len (a_cons (x_var 3) a_nil))) (g_name 4) [4]
  (s_seq (s_setF 5 (x_call F_records_of [] (a_cons (x_var 0) (a_cons (x_var 2) (a_cons (x_var 4) a_nil)))))
  (s_seq (s_set 6 (x_lst a_nil))
  (s_seq (s_setF 7 (x_var 4))
  (s_seq (s_for (i_rng1 (x_ix (x_var 3) (x_var 4))) (g_name 8) [8]
  (s_seq (s_drop (x_app 6 (x_var 7)))
  (s_seq (s_setF 7 (x_ix (x_var 1) (x_bin p_sub (x_var 7) (x_c (.int 1)))))
  s_nx)))
  (s_seq (s_fz 6 (s_if (t_or (t_not (t_of (x_call F__law_same [] (a_cons (x_var 5) (a_cons (x_var 6) a_nil))))) (t_not (t_of (x_call F__law_same [] (a_cons (x_call F_chain_of [] (a_cons (x_var 0) (a_cons (x_var 1) (a_cons (x_var 4) a_nil)))) (a_cons (x_var 6) a_nil))))))
  (s_ret (x_c (.bool false)))
  s_nx))
  (s_seq (s_setF 9 (x_lc (i_seq (x_var 5)) (g_name 10) t_yes (x_ix (x_var 2) (x_bin p_sub (x_var 10) (x_c (.int 1)))) [10]))
  (s_seq (s_if (t_not (t_of (x_cb c_all (a_cons (x_lc (i_zip (x_var 9) (x_sl (x_var 9) (o_at (x_c (.int 1))) o_no)) (g_tup [11, 12]) t_yes (x_bin p_lt (x_var 11) (x_var 12)) [11, 12]) a_nil))))
  (s_ret (x_c (.bool false)))
  s_nx)
  s_nx))))))))
  (s_seq (s_ret (x_c (.bool true)))
  s_nx)))
def F__law_records_right : List PyData → Option Rs := runF 3 10 g__law_records_right
def g__law_led_right : Fs :=
  (s_seq (s_if (t_not (t_of (x_call F__law_crossed_right [] (a_cons (x_var 0) (a_cons (x_var 1) (a_cons (x_var 2) a_nil))))))
  (s_ret (x_c (.bool false)))
  s_nx)
  (s_seq (s_setF 3 (x_call F_heights_of [] (a_cons (x_var 0) (a_cons (x_var 2) a_nil))))
  (s_seq (s_if (t_not (t_of (x_call F__law_same [] (a_cons (x_var 3) (a_cons (x_call F__law_heights [] (a_cons (x_var 2) a_nil)) a_nil)))))
  (s_ret (x_c (.bool false)))
  s_nx)
  (s_seq (s_setF 4 (x_call F_bases_by [] (a_cons (x_var 0) (a_cons (x_var 3) a_nil))))
  (s_seq (s_if (t_not (t_of (x_call F__law_same [] (a_cons (x_var 4) (a_cons (x_call F__law_higher [] (a_cons (x_var 3) (a_cons (x_var 1) a_nil))) a_nil)))))
  (s_ret (x_c (.bool false)))
  s_nx)
  (s_seq (s_if (t_or (t_of (x_bin p_isnot (x_call F__law_crossing [] (a_cons (x_var 1) (a_cons (x_var 4) a_nil))) (x_c .none))) (t_of (x_bin p_ne (x_bin p_eq (x_var 4) (x_var 2)) (x_bin p_is (x_call F__law_crossing [] (a_cons (x_var 1) (a_cons (x_var 2) a_nil))) (x_c .none)))))
  (s_ret (x_c (.bool false)))
  s_nx)
  (s_seq (s_if (t_not (t_of (x_call F__law_all_at_most [] (a_cons (x_call F__law_reads [] (a_cons (x_var 4) a_nil)) (a_cons (x_call F__law_reads [] (a_cons (x_var 2) a_nil)) a_nil)))))
  (s_ret (x_c (.bool false)))
  s_nx)
  (s_seq (s_ret (x_call F__law_all_at_most [] (a_cons (x_call F__law_writes [] (a_cons (x_var 1) (a_cons (x_var 4) a_nil))) (a_cons (x_call F__law_writes [] (a_cons (x_var 1) (a_cons (x_var 2) a_nil))) a_nil))))
  s_nx))))))))
def F__law_led_right : List PyData → Option Rs := runF 3 2 g__law_led_right
def g__law_by_heights : Fs :=
  (s_seq (s_setF 4 (x_call F_bases_by [] (a_cons (x_var 0) (a_cons (x_var 2) a_nil))))
  (s_seq (s_if (t_or (t_not (t_of (x_call F__law_same [] (a_cons (x_var 4) (a_cons (x_call F__law_higher [] (a_cons (x_var 2) (a_cons (x_var 1) a_nil))) a_nil))))) (t_of (x_bin p_isnot (x_call F_is_plan [] (a_cons (x_var 0) (a_cons (x_var 4) a_nil))) (x_c (.bool true)))))
  (s_ret (x_c (.bool false)))
  s_nx)
  (s_seq (s_setF 5 (x_cb c_tuple (a_cons (x_lc (i_seq (x_var 2)) (g_name 7) t_yes (x_bin p_add (x_var 7) (x_var 3)) [7]) a_nil)))
  (s_seq (s_setF 6 (x_cb c_tuple (a_cons (x_lc (i_seq (x_var 2)) (g_name 7) t_yes (x_bin p_add (x_bin p_mul (x_bin p_mul (x_var 7) (x_var 7)) (x_c (.int 7))) (x_var 3)) [7]) a_nil)))
  (s_seq (s_if (t_or (t_of (x_bin p_ne (x_call F_bases_by [] (a_cons (x_var 0) (a_cons (x_var 5) a_nil))) (x_var 4))) (t_of (x_bin p_ne (x_call F_bases_by [] (a_cons (x_var 0) (a_cons (x_var 6) a_nil))) (x_var 4))))
  (s_ret (x_c (.bool false)))
  s_nx)
  (s_seq (s_if (t_of (x_bin p_ne (x_call F_bases_by [] (a_cons (x_var 0) (a_cons (x_call F_heights_of [] (a_cons (x_var 0) (a_cons (x_var 4) a_nil))) a_nil))) (x_var 4)))
  (s_ret (x_c (.bool false)))
  s_nx)
  (s_seq (s_ret (x_call F__law_records_right [] (a_cons (x_var 0) (a_cons (x_var 4) (a_cons (x_var 2) a_nil)))))
  s_nx)))))))
def F__law_by_heights : List PyData → Option Rs := runF 4 4 g__law_by_heights
def g__law_small : Fs :=
  (s_seq (s_setF 1 (x_call F__law_elders [] (a_cons (x_var 0) a_nil)))
  (s_seq (s_set 2 (x_lst a_nil))
  (s_seq (s_setF 3 (x_call F__law_all_rows [] (a_cons (x_sl (x_var 1) (o_at (x_c (.int 1))) o_no) a_nil)))
  (s_seq (s_if (t_of (x_bin p_gt (x_cb c_len (a_cons (x_var 3) a_nil)) (x_c (.int 60))))
  (s_setF 3 (x_stp 2 (x_var 3) o_no o_no))
  s_nx)
  (s_seq (s_for (i_seq (x_var 3)) (g_name 4) [4]
  (s_seq (s_if (t_not (t_of (x_call F__law_led_right [] (a_cons (x_var 0) (a_cons (x_var 1) (a_cons (x_var 4) a_nil))))))
  (s_ret (x_c (.bool false)))
  s_nx)
  (s_seq (s_if (t_of (x_bin p_is (x_call F__law_crossing [] (a_cons (x_var 1) (a_cons (x_var 4) a_nil))) (x_c .none)))
  (s_drop (x_app 2 (x_var 4)))
  s_nx)
  s_nx)))
  (s_seq (s_if (t_of (x_bin p_gt (x_cb c_len (a_cons (x_var 0) a_nil)) (x_c (.int 4))))
  (s_ret (x_bin p_gt (x_cb c_len (a_cons (x_var 2) a_nil)) (x_c (.int 0))))
  s_nx)
  (s_seq (s_setF 5 (x_lrg (g_rg2 (x_c (.int 1)) (x_bin p_add (x_cb c_len (a_cons (x_var 0) a_nil)) (x_c (.int 1))))))
  (s_seq (s_setF 6 (x_lc (i_seq (x_call F__law_all_rows [] (a_cons (x_rep (a_cons (x_var 5) a_nil) (x_cb c_len (a_cons (x_var 0) a_nil))) a_nil))) (g_name 7) t_yes (x_call F__law_higher [] (a_cons (x_var 7) (a_cons (x_var 1) a_nil))) [7]))
  (s_seq (s_ret (x_bin p_eq (x_sset (a_cons (x_var 6) a_nil)) (x_cb c_sortedA (a_cons (x_var 2) a_nil))))
  s_nx)))))))))
def F__law_small : List PyData → Option Rs := runF 1 7 g__law_small
def g_law : Fs :=
  (s_seq (s_set 1 (x_call F__law_feed [] (a_cons (x_var 0) a_nil)))
  (s_seq (s_setF 2 (x_ix (x_lst (a_cons (x_c (.int 5)) (a_cons (x_c (.int 3)) (a_cons (x_c (.int 6)) (a_cons (x_c (.int 4)) (a_cons (x_c (.int 7)) (a_cons (x_c (.int 2)) (a_cons (x_c (.int 5)) (a_cons (x_c (.int 4)) (a_cons (x_c (.int 6)) (a_cons (x_c (.int 1)) (a_cons (x_c (.int 3)) (a_cons (x_c (.int 0)) (a_cons (x_c (.int 8)) (a_cons (x_c (.int 9)) (a_cons (x_c (.int 7)) (a_cons (x_c (.int 24)) a_nil))))))))))))))))) (x_callM F__law_next [] (a_cons (x_var 1) (a_cons (x_c (.int 16)) a_nil)))))
  (s_seq (s_setF 3 (x_callM F__law_history [] (a_cons (x_var 1) (a_cons (x_var 2) a_nil))))
  (s_seq (s_setF 4 (x_call F__law_elders [] (a_cons (x_var 3) a_nil)))
  (s_seq (s_setF 5 (x_callM F__law_next [] (a_cons (x_var 1) (a_cons (x_c (.int 3)) a_nil))))
  (s_seq (s_set 6 (x_lst a_nil))
  (s_seq (s_for (i_rng2 (x_c (.int 1)) (x_bin p_add (x_var 2) (x_c (.int 1)))) (g_name 7) [7]
  (s_seq (s_setF 13 (x_callM F__law_next [] (a_cons (x_var 1) (a_cons (x_cb c_len (a_cons (x_ix (x_var 4) (x_var 7)) a_nil)) a_nil))))
  (s_seq (s_if (t_and (t_of (x_bin p_eq (x_var 5) (x_c (.int 1)))) (t_of (x_bin p_gt (x_callM F__law_next [] (a_cons (x_var 1) (a_cons (x_c (.int 3)) a_nil))) (x_c (.int 0)))))
  (s_setF 13 (x_c (.int 0)))
  s_nx)
  (s_seq (s_drop (x_app 6 (x_ix (x_ix (x_var 4) (x_var 7)) (x_var 13))))
  s_nx))))
  (s_seq (s_set 6 (x_cb c_tuple (a_cons (x_var 6) a_nil)))
  (s_seq (s_fz 6 (s_if (t_or (t_not (t_of (x_call F__law_led_right [] (a_cons (x_var 3) (a_cons (x_var 4) (a_cons (x_var 6) a_nil)))))) (t_not (t_of (x_call F__law_counts_right [] (a_cons (x_var 3) (a_cons (x_var 4) (a_cons (x_var 6) a_nil)))))))
  (s_ret (x_c (.bool false)))
  s_nx))
  (s_seq (s_fz 6 (s_setF 8 (x_call F_bases_by [] (a_cons (x_var 3) (a_cons (x_call F_heights_of [] (a_cons (x_var 3) (a_cons (x_var 6) a_nil))) a_nil)))))
  (s_seq (s_if (t_or (t_not (t_of (x_call F__law_counts_right [] (a_cons (x_var 3) (a_cons (x_var 4) (a_cons (x_var 8) a_nil)))))) (t_not (t_of (x_call F__law_crossed_right [] (a_cons (x_var 3) (a_cons (x_var 4) (a_cons (x_var 8) a_nil)))))))
  (s_ret (x_c (.bool false)))
  s_nx)
  (s_seq (s_setF 9 (x_ix (x_lst (a_cons (x_c (.int 4)) (a_cons (x_c (.int 3)) (a_cons (x_c (.int 99)) (a_cons (x_c (.int 2)) a_nil))))) (x_callM F__law_next [] (a_cons (x_var 1) (a_cons (x_c (.int 4)) a_nil)))))
  (s_seq (s_setF 10 (x_cb c_tuple (a_cons (x_lc (i_rng1 (x_var 2)) (g_name 7) t_yes (x_bin p_add (x_c (.int 1)) (x_callM F__law_next [] (a_cons (x_var 1) (a_cons (x_var 9) a_nil)))) [7]) a_nil)))
  (s_seq (s_setF 11 (x_ix (x_lst (a_cons (x_c (.int 1)) (a_cons (x_c (.int 40)) (a_cons (x_bin p_pow (x_c (.int 10)) (x_c (.int 25))) (a_cons (x_c (.int 998)) a_nil))))) (x_callM F__law_next [] (a_cons (x_var 1) (a_cons (x_c (.int 4)) a_nil)))))
  (s_seq (s_if (t_not (t_of (x_call F__law_by_heights [] (a_cons (x_var 3) (a_cons (x_var 4) (a_cons (x_var 10) (a_cons (x_var 11) a_nil)))))))
  (s_ret (x_c (.bool false)))
  s_nx)
  (s_seq (s_setF 12 (x_ix (x_lst (a_cons (x_c (.int 3)) (a_cons (x_c (.int 2)) (a_cons (x_c (.int 4)) (a_cons (x_c (.int 1)) (a_cons (x_c (.int 4)) (a_cons (x_c (.int 3)) (a_cons (x_c (.int 0)) (a_cons (x_c (.int 4)) (a_cons (x_c (.int 3)) (a_cons (x_c (.int 4)) (a_cons (x_c (.int 2)) (a_cons (x_c (.int 4)) (a_cons (x_c (.int 3)) (a_cons (x_c (.int 4)) (a_cons (x_c (.int 4)) (a_cons (x_c (.int 5)) a_nil))))))))))))))))) (x_callM F__law_next [] (a_cons (x_var 1) (a_cons (x_c (.int 16)) a_nil)))))
  (s_seq (s_ret (x_call F__law_small [] (a_cons (x_callM F__law_history [] (a_cons (x_var 1) (a_cons (x_var 12) a_nil))) a_nil)))
  s_nx)))))))))))))))))
def F_law : List PyData → Option Rs := runF 1 13 g_law
end K58
namespace K58
open PySem PySem.Spec PyProof.Rows L2 DL
structure Bi (mg : Str → Option Value) : Prop where
  abs : mg ("abs" : Str) = none
  all : mg ("all" : Str) = none
  bool : mg ("bool" : Str) = none
  enumerate : mg ("enumerate" : Str) = none
  int : mg ("int" : Str) = none
  isinstance : mg ("isinstance" : Str) = none
  len : mg ("len" : Str) = none
  list : mg ("list" : Str) = none
  max : mg ("max" : Str) = none
  range : mg ("range" : Str) = none
  reversed : mg ("reversed" : Str) = none
  set : mg ("set" : Str) = none
  sorted : mg ("sorted" : Str) = none
  tuple : mg ("tuple" : Str) = none
  zip : mg ("zip" : Str) = none
theorem sc_is_integer : FnScope ["thing"] ["thing"] (defScope s_is_integer) := ⟨rfl, rfl, rfl, by decide +kernel, rfl, by decide +kernel, by decide +kernel⟩
theorem sc_many_of : FnScope ["history"] ["history"] (defScope s_many_of) := ⟨rfl, rfl, rfl, by decide +kernel, rfl, by decide +kernel, by decide +kernel⟩
theorem sc__upward : FnScope ["history", "version", "found"] ["history", "version"] (defScope s__upward) := ⟨rfl, rfl, rfl, by decide +kernel, rfl, by decide +kernel, by decide +kernel⟩
theorem sc_chain_from : FnScope ["bases", "version", "links"] ["bases", "version"] (defScope s_chain_from) := ⟨rfl, rfl, rfl, by decide +kernel, rfl, by decide +kernel, by decide +kernel⟩
theorem sc__law_feed : FnScope ["_law_script", "_law_state", "_law_cell"] ["_law_script"] (defScope s__law_feed) := ⟨rfl, rfl, rfl, by decide +kernel, rfl, by decide +kernel, by decide +kernel⟩
theorem sc__law_next : FnScope ["_law_feed_here", "_law_many", "_law_cell", "_law_rest"] ["_law_feed_here", "_law_many"] (defScope s__law_next) := ⟨rfl, rfl, rfl, by decide +kernel, rfl, by decide +kernel, by decide +kernel⟩
theorem sc__law_elders : FnScope ["_law_history_here", "_law_elders_here", "_law_parent"] ["_law_history_here"] (defScope s__law_elders) := ⟨rfl, rfl, rfl, by decide +kernel, rfl, by decide +kernel, by decide +kernel⟩
theorem sc__law_higher : FnScope ["_law_heights_here", "_law_elders_here", "_law_bases", "_law_v", "_law_found", "_law_elder"] ["_law_heights_here", "_law_elders_here"] (defScope s__law_higher) := ⟨rfl, rfl, rfl, by decide +kernel, rfl, by decide +kernel, by decide +kernel⟩
theorem sc__law_crossing : FnScope ["_law_elders_here", "_law_bases", "_law_z", "_law_v", "_law_base"] ["_law_elders_here", "_law_bases"] (defScope s__law_crossing) := ⟨rfl, rfl, rfl, by decide +kernel, rfl, by decide +kernel, by decide +kernel⟩
theorem sc__law_reads : FnScope ["_law_bases", "_law_reads_here", "_law_base"] ["_law_bases"] (defScope s__law_reads) := ⟨rfl, rfl, rfl, by decide +kernel, rfl, by decide +kernel, by decide +kernel⟩
theorem sc__law_writes : FnScope ["_law_elders_here", "_law_bases", "_law_writes_here", "_law_z", "_law_e"] ["_law_elders_here", "_law_bases"] (defScope s__law_writes) := ⟨rfl, rfl, rfl, by decide +kernel, rfl, by decide +kernel, by decide +kernel⟩
theorem sc__law_same : FnScope ["_law_told", "_law_due", "_law_one"] ["_law_told", "_law_due"] (defScope s__law_same) := ⟨rfl, rfl, rfl, by decide +kernel, rfl, by decide +kernel, by decide +kernel⟩
theorem sc__law_all_at_most : FnScope ["_law_low", "_law_high", "_law_a", "_law_b"] ["_law_low", "_law_high"] (defScope s__law_all_at_most) := ⟨rfl, rfl, rfl, by decide +kernel, rfl, by decide +kernel, by decide +kernel⟩
theorem sc__law_all_rows : FnScope ["_law_menus", "_law_rows", "_law_menu", "_law_more", "_law_row", "_law_one"] ["_law_menus"] (defScope s__law_all_rows) := ⟨rfl, rfl, rfl, by decide +kernel, rfl, by decide +kernel, by decide +kernel⟩
theorem sc_is_number : FnScope ["thing"] ["thing"] (defScope s_is_number) := ⟨rfl, rfl, rfl, by decide +kernel, rfl, by decide +kernel, by decide +kernel⟩
theorem sc_is_natural : FnScope ["thing"] ["thing"] (defScope s_is_natural) := ⟨rfl, rfl, rfl, by decide +kernel, rfl, by decide +kernel, by decide +kernel⟩
theorem sc__law_history : FnScope ["_law_feed_here", "_law_many", "_law_shape", "_law_parents", "_law_v"] ["_law_feed_here", "_law_many"] (defScope s__law_history) := ⟨rfl, rfl, rfl, by decide +kernel, rfl, by decide +kernel, by decide +kernel⟩
theorem sc__law_heights : FnScope ["_law_bases", "_law_reads_here", "_law_most", "_law_one"] ["_law_bases"] (defScope s__law_heights) := ⟨rfl, rfl, rfl, by decide +kernel, rfl, by decide +kernel, by decide +kernel⟩
theorem sc_check_version : FnScope ["history", "name", "thing", "least"] ["history", "name", "thing", "least"] (defScope s_check_version) := ⟨rfl, rfl, rfl, by decide +kernel, rfl, by decide +kernel, by decide +kernel⟩
theorem sc_ask_version : FnScope ["history", "word", "version", "least"] ["history", "word", "version", "least"] (defScope s_ask_version) := ⟨rfl, rfl, rfl, by decide +kernel, rfl, by decide +kernel, by decide +kernel⟩
theorem sc_is_heights : FnScope ["history", "thing", "height"] ["history", "thing"] (defScope s_is_heights) := ⟨rfl, rfl, rfl, by decide +kernel, rfl, by decide +kernel, by decide +kernel⟩
theorem sc_path_of : FnScope ["history", "version", "found", "elder"] ["history", "version"] (defScope s_path_of) := ⟨rfl, rfl, rfl, by decide +kernel, rfl, by decide +kernel, by decide +kernel⟩
theorem sc_is_elder : FnScope ["history", "one", "other"] ["history", "one", "other"] (defScope s_is_elder) := ⟨rfl, rfl, rfl, by decide +kernel, rfl, by decide +kernel, by decide +kernel⟩
theorem sc_bases_by : FnScope ["history", "heights", "bases", "height", "parent", "elder"] ["history", "heights"] (defScope s_bases_by) := ⟨rfl, rfl, rfl, by decide +kernel, rfl, by decide +kernel, by decide +kernel⟩
theorem sc_is_bases : FnScope ["history", "thing", "at", "base"] ["history", "thing"] (defScope s_is_bases) := ⟨rfl, rfl, rfl, by decide +kernel, rfl, by decide +kernel, by decide +kernel⟩
theorem sc_first_crossing : FnScope ["history", "bases", "z", "base", "v"] ["history", "bases"] (defScope s_first_crossing) := ⟨rfl, rfl, rfl, by decide +kernel, rfl, by decide +kernel, by decide +kernel⟩
theorem sc_sheet_from : FnScope ["history", "bases", "version", "change"] ["history", "bases", "version"] (defScope s_sheet_from) := ⟨rfl, rfl, rfl, by decide +kernel, rfl, by decide +kernel, by decide +kernel⟩
theorem sc_records_of : FnScope ["history", "heights", "version", "bases", "records", "step"] ["history", "heights", "version"] (defScope s_records_of) := ⟨rfl, rfl, rfl, by decide +kernel, rfl, by decide +kernel, by decide +kernel⟩
theorem sc_is_plan : FnScope ["history", "thing"] ["history", "thing"] (defScope s_is_plan) := ⟨rfl, rfl, rfl, by decide +kernel, rfl, by decide +kernel, by decide +kernel⟩
theorem sc_crossing_of : FnScope ["history", "bases"] ["history", "bases"] (defScope s_crossing_of) := ⟨rfl, rfl, rfl, by decide +kernel, rfl, by decide +kernel, by decide +kernel⟩
theorem sc_ask_bases : FnScope ["history", "bases"] ["history", "bases"] (defScope s_ask_bases) := ⟨rfl, rfl, rfl, by decide +kernel, rfl, by decide +kernel, by decide +kernel⟩
theorem sc_chain_of : FnScope ["history", "bases", "version"] ["history", "bases", "version"] (defScope s_chain_of) := ⟨rfl, rfl, rfl, by decide +kernel, rfl, by decide +kernel, by decide +kernel⟩
theorem sc_reads_by : FnScope ["history", "bases", "counts", "base"] ["history", "bases"] (defScope s_reads_by) := ⟨rfl, rfl, rfl, by decide +kernel, rfl, by decide +kernel, by decide +kernel⟩
theorem sc_writes_by : FnScope ["history", "bases", "counts", "version", "change"] ["history", "bases"] (defScope s_writes_by) := ⟨rfl, rfl, rfl, by decide +kernel, rfl, by decide +kernel, by decide +kernel⟩
theorem sc__law_crossed_right : FnScope ["_law_history_here", "_law_elders_here", "_law_bases", "_law_told", "_law_due", "_law_sure"] ["_law_history_here", "_law_elders_here", "_law_bases"] (defScope s__law_crossed_right) := ⟨rfl, rfl, rfl, by decide +kernel, rfl, by decide +kernel, by decide +kernel⟩
theorem sc_heights_of : FnScope ["history", "bases", "reads", "greatest", "many"] ["history", "bases"] (defScope s_heights_of) := ⟨rfl, rfl, rfl, by decide +kernel, rfl, by decide +kernel, by decide +kernel⟩
theorem sc__law_counts_right : FnScope ["_law_history_here", "_law_elders_here", "_law_bases"] ["_law_history_here", "_law_elders_here", "_law_bases"] (defScope s__law_counts_right) := ⟨rfl, rfl, rfl, by decide +kernel, rfl, by decide +kernel, by decide +kernel⟩
theorem sc__law_records_right : FnScope ["_law_history_here", "_law_plan", "_law_heights_here", "_law_reads_here", "_law_v", "_law_told", "_law_chain", "_law_at", "_law_k", "_law_tall", "_law_z", "_law_a", "_law_b"] ["_law_history_here", "_law_plan", "_law_heights_here"] (defScope s__law_records_right) := ⟨rfl, rfl, rfl, by decide +kernel, rfl, by decide +kernel, by decide +kernel⟩
theorem sc__law_led_right : FnScope ["_law_history_here", "_law_elders_here", "_law_bases", "_law_heights_here", "_law_plan"] ["_law_history_here", "_law_elders_here", "_law_bases"] (defScope s__law_led_right) := ⟨rfl, rfl, rfl, by decide +kernel, rfl, by decide +kernel, by decide +kernel⟩
theorem sc__law_by_heights : FnScope ["_law_history_here", "_law_elders_here", "_law_heights_here", "_law_more", "_law_plan", "_law_raised", "_law_wide", "_law_h"] ["_law_history_here", "_law_elders_here", "_law_heights_here", "_law_more"] (defScope s__law_by_heights) := ⟨rfl, rfl, rfl, by decide +kernel, rfl, by decide +kernel, by decide +kernel⟩
theorem sc__law_small : FnScope ["_law_history_here", "_law_elders_here", "_law_plans", "_law_rows", "_law_bases", "_law_menu", "_law_found", "_law_heights_here"] ["_law_history_here"] (defScope s__law_small) := ⟨rfl, rfl, rfl, by decide +kernel, rfl, by decide +kernel, by decide +kernel⟩
theorem sc_law : FnScope ["_law_script", "_law_feed_here", "_law_many", "_law_history_here", "_law_elders_here", "_law_lean", "_law_bases", "_law_v", "_law_plan", "_law_most", "_law_heights_here", "_law_more", "_law_few", "_law_at"] ["_law_script"] (defScope s_law) := ⟨rfl, rfl, rfl, by decide +kernel, rfl, by decide +kernel, by decide +kernel⟩
section
variable {P : Program} {w : World} {K : PySem.W.Frag} {mg : Str → Option Value} {base : Heap} {f : Addr} {fd : FuncData} {dvs : List V} {kws : List (Str × V)}
theorem ok_is_integer (B : Bi mg) (F : FunD K "is_integer" "is_integer" (defArgs s_is_integer) (defBody s_is_integer) (defScope s_is_integer) dvs kws f fd) : FnOk P w K mg base CX0 1 f fd ["thing"] (spD K 1 F_is_integer) :=
  fnD F sc_is_integer rfl rfl fun cdv A outer s H E hr => (ssd_one (sd_ret (ed_and (ed_isi .int (ed_var 0) B.isinstance B.int) (ed_one (ed_not (ed_isi .bool (ed_var 0) B.isinstance B.bool))))))
theorem ok_many_of (B : Bi mg) (F : FunD K "many_of" "many_of" (defArgs s_many_of) (defBody s_many_of) (defScope s_many_of) dvs kws f fd) : FnOk P w K mg base CX0 1 f fd ["history"] (spD K 1 F_many_of) :=
  fnD F sc_many_of rfl rfl fun cdv A outer s H E hr => (ssd_one (sd_ret (ed_cb vc_len call_len_seq B.len (ad_cons (ed_var 0) ad_nil))))
theorem ok__upward (F : FunD K "_upward" "_upward" (defArgs s__upward) (defBody s__upward) (defScope s__upward) dvs kws f fd) : FnOk P w K mg base CX0 1 f fd ["history", "version"] (spD K 2 F__upward) :=
  fnD F sc__upward rfl rfl fun cdv A outer s H E hr => (ssd_cons (sd_set 2 sc__upward.nd (ed_lst ad_nil))
  (ssd_cons (sd_while (fuI 1) PassesOwn.never (td_cmp vb_gt op_gt (nomark _) (ed_var 1) ed_int)
  (ssd_cons (sd_setF 1 sc__upward.nd (ed_ix (ed_var 0) (ed_op vb_sub op_sub (ed_var 1) ed_int)))
  (ssd_cons (sd_expr (ed_app 2 (ed_var 1)))
  ssd_nil)))
  (ssd_cons (sd_ret (ed_var 2))
  ssd_nil)))
theorem ok_chain_from (F : FunD K "chain_from" "chain_from" (defArgs s_chain_from) (defBody s_chain_from) (defScope s_chain_from) dvs kws f fd) : FnOk P w K mg base CX0 1 f fd ["bases", "version"] (spD K 2 F_chain_from) :=
  fnD F sc_chain_from rfl rfl fun cdv A outer s H E hr => (ssd_cons (sd_set 2 sc_chain_from.nd (ed_lst ad_nil))
  (ssd_cons (sd_while (fuI 1) PassesOwn.never (td_cmp vb_gt op_gt (nomark _) (ed_var 1) ed_int)
  (ssd_cons (sd_expr (ed_app 2 (ed_var 1)))
  (ssd_cons (sd_setF 1 sc_chain_from.nd (ed_ix (ed_var 0) (ed_op vb_sub op_sub (ed_var 1) ed_int)))
  ssd_nil)))
  (ssd_cons (sd_ret (ed_var 2))
  ssd_nil)))
theorem ok__law_feed (B : Bi mg) (F : FunD K "_law_feed" "_law_feed" (defArgs s__law_feed) (defBody s__law_feed) (defScope s__law_feed) dvs kws f fd) : FnOk P w K mg base CX0 1 f fd ["_law_script"] (spD K 1 F__law_feed) :=
  fnD F sc__law_feed rfl rfl fun cdv A outer s H E hr => (ssd_cons (sd_setF 1 sc__law_feed.nd ed_int)
  (ssd_cons (sd_for rfl PassesOwn.never (id_seq (ed_var 0)) (gd_name (i := 2) sc__law_feed.nd rfl (by first | exact .inl rfl | exact .inr rfl))
  (ssd_one (sd_setF 1 sc__law_feed.nd (ed_op vb_mod op_mod (ed_ct vc_int call_int1 B.int (ad_cons (ed_op vb_add op_add3 (ed_op vb_mul op_mul2 (ed_var 1) ed_int) (ed_var 2)) ad_nil)) ed_int))))
  (ssd_cons (sd_ret (ed_lst (ad_cons (ed_ct vc_list call_list_of B.list (ad_cons (ed_var 0) ad_nil)) (ad_cons ed_int (ad_cons ed_int (ad_cons (ed_var 1) ad_nil))))))
  ssd_nil)))
theorem ok__law_next (B : Bi mg) (F : FunD K "_law_next" "_law_next" (defArgs s__law_next) (defBody s__law_next) (defScope s__law_next) dvs kws f fd) : FnOk P w K mg base CX0 1 f fd ["_law_feed_here", "_law_many"] (spM K 1 F__law_next) :=
  fnM F sc__law_next rfl rfl fun cdv A outer s H E hr => (ssd_cons (sd_if (td_cmp vb_eq (op_eqD hr.units) (nomark _) (ed_cb vc_len call_len_seq B.len (ad_cons (ed_ix (ed_var 0) ed_int) ad_nil)) ed_int)
  (ssd_one (sd_ret ed_int))
  ssd_nil)
  (ssd_cons (sd_if (WD.td (wd_and (td_cmp vb_eq (op_eqD hr.units) (nomark _) (ed_ix (ed_var 0) ed_int) ed_int) (wd_and1 (td_cmp vb_lt op_lt (nomark _) (ed_ix (ed_var 0) ed_int) (ed_cb vc_len call_len_seq B.len (ad_cons (ed_ix (ed_var 0) ed_int) ad_nil))))))
  (ssd_cons (sd_setF 2 sc__law_next.nd (ed_ix (ed_ix (ed_var 0) ed_int) (ed_ix (ed_var 0) ed_int)))
  (ssd_cons (sd_put 0 (ed_op vb_add op_add3 (ed_ix (ed_var 0) ed_int) ed_int) ed_int)
  (ssd_cons (sd_if (td_cmp vb_ge op_ge (nomark _) (ed_cb vc_abs call_abs B.abs (ad_cons (ed_var 2) ad_nil)) (ed_op vb_pow op_pow ed_int ed_int))
  (ssd_one (sd_put 0 (ed_op vb_mod op_mod (ed_ct vc_int call_int1 B.int (ad_cons (ed_cb vc_abs call_abs B.abs (ad_cons (ed_var 2) ad_nil)) ad_nil)) (ed_op vb_mul op_mul2 (ed_op vb_mul op_mul2 (ed_op vb_pow op_pow ed_int ed_int) (ed_op vb_pow op_pow ed_int ed_int)) (ed_op vb_pow op_pow ed_int ed_int))) ed_int))
  (ssd_one (sd_put 0 (ed_op vb_mod op_mod (ed_ct vc_int call_int1 B.int (ad_cons (ed_op vb_add op_add3 (ed_op vb_add op_add3 (ed_ix (ed_var 0) ed_int) (ed_op vb_mul op_mul2 ed_int (ed_var 2))) (ed_op vb_mul op_mul2 ed_int (ed_ix (ed_var 0) ed_int))) ad_nil)) ed_int) ed_int)))
  ssd_nil)))
  ssd_nil)
  (ssd_cons (sd_if (td_cmp vb_gt op_gt (nomark _) (ed_ix (ed_var 0) ed_int) ed_int)
  (ssd_cons (sd_setF 3 sc__law_next.nd (ed_ix (ed_var 0) ed_int))
  (ssd_cons (sd_put 0 (ed_op vb_div op_fdiv (ed_var 3) (ed_var 1)) ed_int)
  (ssd_cons (sd_ret (ed_op vb_mod op_mod (ed_ct vc_int call_int1 B.int (ad_cons (ed_var 3) ad_nil)) (ed_var 1)))
  ssd_nil)))
  ssd_nil)
  (ssd_cons (sd_put 0 (ed_op vb_mod op_mod (ed_ct vc_int call_int1 B.int (ad_cons (ed_op vb_add op_add3 (ed_op vb_mul op_mul2 (ed_ix (ed_var 0) ed_int) ed_int) ed_int) ad_nil)) ed_int) ed_int)
  (ssd_cons (sd_ret (ed_op vb_mod op_mod (ed_ct vc_int call_int1 B.int (ad_cons (ed_op vb_div op_fdiv (ed_ix (ed_var 0) ed_int) ed_int) ad_nil)) (ed_var 1)))
  ssd_nil)))))
theorem ok__law_elders (F : FunD K "_law_elders" "_law_elders" (defArgs s__law_elders) (defBody s__law_elders) (defScope s__law_elders) dvs kws f fd) : FnOk P w K mg base CX0 1 f fd ["_law_history_here"] (spD K 1 F__law_elders) :=
  fnD F sc__law_elders rfl rfl fun cdv A outer s H E hr => (ssd_cons (sd_set 1 sc__law_elders.nd (ed_lst (ad_cons (ed_lst ad_nil) ad_nil)))
  (ssd_cons (sd_for rfl PassesOwn.never (id_seq (ed_var 0)) (gd_name (i := 2) sc__law_elders.nd rfl (by first | exact .inl rfl | exact .inr rfl))
  (ssd_one (sd_expr (ed_app 1 (ed_op vb_add op_add3 (ed_lst (ad_cons (ed_var 2) ad_nil)) (ed_ix (ed_var 1) (ed_var 2)))))))
  (ssd_cons (sd_ret (ed_var 1))
  ssd_nil)))
theorem ok__law_higher (B : Bi mg) (F : FunD K "_law_higher" "_law_higher" (defArgs s__law_higher) (defBody s__law_higher) (defScope s__law_higher) dvs kws f fd) : FnOk P w K mg base CX0 1 f fd ["_law_heights_here", "_law_elders_here"] (spD K 2 F__law_higher) :=
  fnD F sc__law_higher rfl rfl fun cdv A outer s H E hr => (ssd_cons (sd_set 2 sc__law_higher.nd (ed_lst ad_nil))
  (ssd_cons (sd_for rfl PassesOwn.never (id_rng2 ed_int (ed_cb vc_len call_len_seq B.len (ad_cons (ed_var 1) ad_nil)) B.range) (gd_name (i := 3) sc__law_higher.nd rfl (by first | exact .inl rfl | exact .inr rfl))
  (ssd_cons (sd_setF 4 sc__law_higher.nd ed_int)
  (ssd_cons (sd_for rfl PassesOwn.never (id_seq (ed_rev (ed_ix (ed_var 1) (ed_var 3)))) (gd_name (i := 5) sc__law_higher.nd rfl (by first | exact .inl rfl | exact .inr rfl))
  (ssd_one (sd_if (WD.td (wd_and (td_cmp vb_gt op_gt (nomark _) (ed_var 5) ed_int) (wd_and1 (td_cmp vb_gt op_gt (nomark _) (ed_ix (ed_var 0) (ed_op vb_sub op_sub (ed_var 5) ed_int)) (ed_ix (ed_var 0) (ed_op vb_sub op_sub (ed_var 3) ed_int))))))
  (ssd_one (sd_setF 4 sc__law_higher.nd (ed_var 5)))
  ssd_nil)))
  (ssd_cons (sd_expr (ed_app 2 (ed_var 4)))
  ssd_nil))))
  (ssd_cons (sd_ret (ed_ct vc_tuple call_tuple_of B.tuple (ad_cons (ed_var 2) ad_nil)))
  ssd_nil)))
theorem ok__law_crossing (B : Bi mg) (F : FunD K "_law_crossing" "_law_crossing" (defArgs s__law_crossing) (defBody s__law_crossing) (defScope s__law_crossing) dvs kws f fd) : FnOk P w K mg base CX0 1 f fd ["_law_elders_here", "_law_bases"] (spD K 2 F__law_crossing) :=
  fnD F sc__law_crossing rfl rfl fun cdv A outer s H E hr => (ssd_cons (sd_for rfl PassesOwn.never (id_rng2 ed_int (ed_cb vc_len call_len_seq B.len (ad_cons (ed_var 0) ad_nil)) B.range) (gd_name (i := 2) sc__law_crossing.nd rfl (by first | exact .inl rfl | exact .inr rfl))
  (ssd_one (sd_for rfl PassesOwn.never (id_seq (ed_sl (ed_rev (ed_ix (ed_var 0) (ed_var 2))) (od_at ed_int) od_no)) (gd_name (i := 3) sc__law_crossing.nd rfl (by first | exact .inl rfl | exact .inr rfl))
  (ssd_cons (sd_setF 4 sc__law_crossing.nd (ed_ix (ed_var 1) (ed_op vb_sub op_sub (ed_var 2) ed_int)))
  (ssd_cons (sd_if (WD.td (wd_and (td_cmp vb_inB op_in_seq (by with_unfolding_all rfl) (ed_var 4) (ed_ix (ed_var 0) (ed_var 3))) (wd_and (td_cmp vb_ne (op_neD hr.units) (nomark _) (ed_var 4) (ed_ix (ed_var 1) (ed_op vb_sub op_sub (ed_var 3) ed_int))) (wd_and1 (td_cmp vb_inB op_notIn_seq (by with_unfolding_all rfl) (ed_var 4) (ed_ix (ed_var 0) (ed_ix (ed_var 1) (ed_op vb_sub op_sub (ed_var 3) ed_int))))))))
  (ssd_one (sd_ret (ed_tup (ad_cons (ed_var 3) (ad_cons (ed_var 2) ad_nil)))))
  ssd_nil)
  ssd_nil)))))
  (ssd_cons (sd_ret ed_non)
  ssd_nil))
theorem ok__law_reads (F : FunD K "_law_reads" "_law_reads" (defArgs s__law_reads) (defBody s__law_reads) (defScope s__law_reads) dvs kws f fd) : FnOk P w K mg base CX0 1 f fd ["_law_bases"] (spD K 1 F__law_reads) :=
  fnD F sc__law_reads rfl rfl fun cdv A outer s H E hr => (ssd_cons (sd_set 1 sc__law_reads.nd (ed_lst (ad_cons ed_int ad_nil)))
  (ssd_cons (sd_for rfl PassesOwn.never (id_seq (ed_var 0)) (gd_name (i := 2) sc__law_reads.nd rfl (by first | exact .inl rfl | exact .inr rfl))
  (ssd_one (sd_expr (ed_app 1 (ed_op vb_add op_add3 ed_int (ed_ix (ed_var 1) (ed_var 2)))))))
  (ssd_cons (sd_ret (ed_var 1))
  ssd_nil)))
theorem ok__law_writes (B : Bi mg) (F : FunD K "_law_writes" "_law_writes" (defArgs s__law_writes) (defBody s__law_writes) (defScope s__law_writes) dvs kws f fd) : FnOk P w K mg base CX0 1 f fd ["_law_elders_here", "_law_bases"] (spD K 2 F__law_writes) :=
  fnD F sc__law_writes rfl rfl fun cdv A outer s H E hr => (ssd_cons (sd_set 2 sc__law_writes.nd (ed_rep (ad_cons ed_int ad_nil) (ed_cb vc_len call_len_seq B.len (ad_cons (ed_var 1) ad_nil))))
  (ssd_cons (sd_for rfl PassesOwn.never (id_rng2 ed_int (ed_cb vc_len call_len_seq B.len (ad_cons (ed_var 0) ad_nil)) B.range) (gd_name (i := 3) sc__law_writes.nd rfl (by first | exact .inl rfl | exact .inr rfl))
  (ssd_one (sd_for rfl PassesOwn.never (id_seq (ed_op vb_add op_add3 (ed_lst (ad_cons (ed_var 3) ad_nil)) (ed_ix (ed_var 0) (ed_var 3)))) (gd_name (i := 4) sc__law_writes.nd rfl (by first | exact .inl rfl | exact .inr rfl))
  (ssd_one (sd_if (td_cmp vb_gt op_gt (nomark _) (ed_var 4) (ed_ix (ed_var 1) (ed_op vb_sub op_sub (ed_var 3) ed_int)))
  (ssd_one (sd_put 2 (ed_op vb_add op_add3 (ed_ix (ed_var 2) (ed_op vb_sub op_sub (ed_var 4) ed_int)) ed_int) (ed_op vb_sub op_sub (ed_var 4) ed_int)))
  ssd_nil)))))
  (ssd_cons (sd_ret (ed_var 2))
  ssd_nil)))
theorem ok__law_same (B : Bi mg) (F : FunD K "_law_same" "_law_same" (defArgs s__law_same) (defBody s__law_same) (defScope s__law_same) dvs kws f fd) : FnOk P w K mg base CX0 1 f fd ["_law_told", "_law_due"] (spD K 2 F__law_same) :=
  fnD F sc__law_same rfl rfl fun cdv A outer s H E hr => (ssd_cons (sd_if (WD.td (wd_or (td_not (td_val (ed_isi .tuple (ed_var 0) B.isinstance B.tuple))) (wd_or1 (td_cmp vb_ne (op_neD hr.units) (nomark _) (ed_cb vc_len call_len_seq B.len (ad_cons (ed_var 0) ad_nil)) (ed_cb vc_len call_len_seq B.len (ad_cons (ed_var 1) ad_nil))))))
  (ssd_one (sd_ret ed_bl))
  ssd_nil)
  (ssd_cons (sd_for rfl PassesOwn.never (id_seq (ed_var 0)) (gd_name (i := 2) sc__law_same.nd rfl (by first | exact .inl rfl | exact .inr rfl))
  (ssd_one (sd_if (WD.td (wd_or (td_not (td_val (ed_isi .int (ed_var 2) B.isinstance B.int))) (wd_or1 (td_val (ed_isi .bool (ed_var 2) B.isinstance B.bool)))))
  (ssd_one (sd_ret ed_bl))
  ssd_nil)))
  (ssd_cons (sd_ret (ed_cmp vb_eq (op_eqD hr.units) (nomark _) (ed_var 0) (ed_ct vc_tuple call_tuple_of B.tuple (ad_cons (ed_var 1) ad_nil))))
  ssd_nil)))
theorem ok__law_all_at_most (B : Bi mg) (F : FunD K "_law_all_at_most" "_law_all_at_most" (defArgs s__law_all_at_most) (defBody s__law_all_at_most) (defScope s__law_all_at_most) dvs kws f fd) : FnOk P w K mg base CX0 1 f fd ["_law_low", "_law_high"] (spD K 2 F__law_all_at_most) :=
  fnD F sc__law_all_at_most rfl rfl fun cdv A outer s H E hr => (ssd_one (sd_ret (ed_cb vc_all (cr_all rfl) B.all (ad_cons (ed_lc (own := [("_law_a", 2), ("_law_b", 3)]) rfl sc__law_all_at_most.nd (id_zip (ed_var 0) (ed_var 1) B.zip) (by first | decide | with_unfolding_all rfl) (by decide) (fun _ _ _ _ _ => (gd_tup rfl (gsd_cons (i := 2) sc__law_all_at_most.nd rfl (by first | exact .inl rfl | exact .inr rfl) (gsd_cons (i := 3) sc__law_all_at_most.nd rfl (by first | exact .inl rfl | exact .inr rfl) gsd_nil)))) (fun _ _ _ _ _ => ptd_nil) (fun _ _ _ _ _ => (ed_cmp vb_le op_le (nomark _) (ed_var 2) (ed_var 3)))) ad_nil))))
theorem ok__law_all_rows (B : Bi mg) (F : FunD K "_law_all_rows" "_law_all_rows" (defArgs s__law_all_rows) (defBody s__law_all_rows) (defScope s__law_all_rows) dvs kws f fd) : FnOk P w K mg base CX0 1 f fd ["_law_menus"] (spD K 1 F__law_all_rows) :=
  fnD F sc__law_all_rows rfl rfl fun cdv A outer s H E hr => (ssd_cons (sd_setF 1 sc__law_all_rows.nd (ed_lst (ad_cons (ed_tup ad_nil) ad_nil)))
  (ssd_cons (sd_for rfl PassesOwn.never (id_seq (ed_var 0)) (gd_name (i := 2) sc__law_all_rows.nd rfl (by first | exact .inl rfl | exact .inr rfl))
  (ssd_cons (sd_set 3 sc__law_all_rows.nd (ed_lst ad_nil))
  (ssd_cons (sd_for rfl PassesOwn.never (id_seq (ed_ct vc_list call_list_of B.list (ad_cons (ed_var 1) ad_nil))) (gd_name (i := 4) sc__law_all_rows.nd rfl (by first | exact .inl rfl | exact .inr rfl))
  (ssd_one (sd_expr (ed_ext 3 (ed_lc (own := [("_law_one", 5)]) rfl sc__law_all_rows.nd (id_seq (ed_var 2)) (by first | decide | with_unfolding_all rfl) (by decide) (fun _ _ _ _ _ => (gd_name (i := 5) sc__law_all_rows.nd rfl (by first | exact .inl rfl | exact .inr rfl))) (fun _ _ _ _ _ => ptd_nil) (fun _ _ _ _ _ => (ed_op vb_add op_add3 (ed_var 4) (ed_tup (ad_cons (ed_var 5) ad_nil)))))))))
  (ssd_cons (SD.fz 3 (sd_setF 1 sc__law_all_rows.nd (ed_var 3)))
  ssd_nil))))
  (ssd_cons (sd_ret (ed_var 1))
  ssd_nil)))
theorem ok_is_number (F : FunD K "is_number" "is_number" (defArgs s_is_number) (defBody s_is_number) (defScope s_is_number) dvs kws f fd) (c_is_integer : Kf P w K mg base 1 "is_integer" (spD K 1 F_is_integer) []) : FnOk P w K mg base CX0 2 f fd ["thing"] (spD K 1 F_is_number) :=
  fnD F sc_is_number rfl rfl fun cdv A outer s H E hr => (ssd_one (sd_ret (ed_and (ed_call c_is_integer hr (by decide) dvs0 runF_len (ad_cons (ed_var 0) ad_nil)) (ed_one (ed_cmp vb_ge op_ge (nomark _) (ed_var 0) ed_int)))))
theorem ok_is_natural (F : FunD K "is_natural" "is_natural" (defArgs s_is_natural) (defBody s_is_natural) (defScope s_is_natural) dvs kws f fd) (c_is_integer : Kf P w K mg base 1 "is_integer" (spD K 1 F_is_integer) []) : FnOk P w K mg base CX0 2 f fd ["thing"] (spD K 1 F_is_natural) :=
  fnD F sc_is_natural rfl rfl fun cdv A outer s H E hr => (ssd_one (sd_ret (ed_and (ed_call c_is_integer hr (by decide) dvs0 runF_len (ad_cons (ed_var 0) ad_nil)) (ed_one (ed_cmp vb_ge op_ge (nomark _) (ed_var 0) ed_int)))))
theorem ok__law_history (B : Bi mg) (F : FunD K "_law_history" "_law_history" (defArgs s__law_history) (defBody s__law_history) (defScope s__law_history) dvs kws f fd) (c__law_next : Kf P w K mg base 1 "_law_next" (spM K 1 F__law_next) []) : FnOk P w K mg base CX0 2 f fd ["_law_feed_here", "_law_many"] (spM K 1 F__law_history) :=
  fnM F sc__law_history rfl rfl fun cdv A outer s H E hr => (ssd_cons (sd_setF 2 sc__law_history.nd (ed_callM c__law_next hr (by decide) dvs0 runM_len (ad_cons (ed_var 0) (ad_cons ed_int ad_nil))))
  (ssd_cons (sd_set 3 sc__law_history.nd (ed_lst ad_nil))
  (ssd_cons (sd_for rfl PassesOwn.never (id_rng2 ed_int (ed_op vb_add op_add3 (ed_var 1) ed_int) B.range) (gd_name (i := 4) sc__law_history.nd rfl (by first | exact .inl rfl | exact .inr rfl))
  (ssd_one (sd_if (td_cmp vb_eq (op_eqD hr.units) (nomark _) (ed_var 2) ed_int)
  (ssd_one (sd_expr (ed_app 3 (ed_op vb_sub op_sub (ed_var 4) ed_int))))
  (ssd_one (sd_if (td_cmp vb_eq (op_eqD hr.units) (nomark _) (ed_var 2) ed_int)
  (ssd_one (sd_expr (ed_app 3 (ed_op vb_div op_fdiv (ed_op vb_sub op_sub (ed_var 4) ed_int) ed_int))))
  (ssd_one (sd_if (td_cmp vb_eq (op_eqD hr.units) (nomark _) (ed_var 2) ed_int)
  (ssd_one (sd_expr (ed_app 3 (ed_callM c__law_next hr (by decide) dvs0 runM_len (ad_cons (ed_var 0) (ad_cons (ed_var 4) ad_nil))))))
  (ssd_one (sd_expr (ed_app 3 (ed_cb vc_max2 (call_max2 rfl) B.max (ad_cons ed_int (ad_cons (ed_op vb_sub op_sub (ed_op vb_sub op_sub (ed_var 4) ed_int) (ed_op vb_mod op_mod (ed_ct vc_int call_int1 B.int (ad_cons (ed_op vb_div op_fdiv (ed_var 4) ed_int) ad_nil)) ed_int)) ad_nil)))))))))))))
  (ssd_cons (sd_ret (ed_ct vc_tuple call_tuple_of B.tuple (ad_cons (ed_var 3) ad_nil)))
  ssd_nil))))
theorem ok__law_heights (B : Bi mg) (F : FunD K "_law_heights" "_law_heights" (defArgs s__law_heights) (defBody s__law_heights) (defScope s__law_heights) dvs kws f fd) (c__law_reads : Kf P w K mg base 1 "_law_reads" (spD K 1 F__law_reads) []) : FnOk P w K mg base CX0 2 f fd ["_law_bases"] (spD K 1 F__law_heights) :=
  fnD F sc__law_heights rfl rfl fun cdv A outer s H E hr => (ssd_cons (sd_setF 1 sc__law_heights.nd (ed_call c__law_reads hr (by decide) dvs0 runF_len (ad_cons (ed_var 0) ad_nil)))
  (ssd_cons (sd_setF 2 sc__law_heights.nd (ed_cb vc_maxA (cr_maxA rfl hr.units) B.max (ad_cons (ed_var 1) ad_nil)))
  (ssd_cons (sd_ret (ed_ct vc_tuple call_tuple_of B.tuple (ad_cons (ed_lc (own := [("_law_one", 3)]) rfl sc__law_heights.nd (id_seq (ed_sl (ed_var 1) (od_at ed_int) od_no)) (by first | decide | with_unfolding_all rfl) (by decide) (fun _ _ _ _ _ => (gd_name (i := 3) sc__law_heights.nd rfl (by first | exact .inl rfl | exact .inr rfl))) (fun _ _ _ _ _ => ptd_nil) (fun _ _ _ _ _ => (ed_op vb_sub op_sub (ed_op vb_add op_add3 (ed_var 2) ed_int) (ed_var 3)))) ad_nil)))
  ssd_nil)))
theorem ok_check_version (B : Bi mg) (F : FunD K "check_version" "check_version" (defArgs s_check_version) (defBody s_check_version) (defScope s_check_version) dvs kws f fd) (c_is_number : Kf P w K mg base 2 "is_number" (spD K 1 F_is_number) []) : FnOk P w K mg base CX0 3 f fd ["history", "name", "thing", "least"] (spD K 4 F_check_version) :=
  fnD F sc_check_version rfl rfl fun cdv A outer s H E hr => (ssd_one (sd_if (WD.td (wd_or (td_not (td_val (ed_call c_is_number hr (by decide) dvs0 runF_len (ad_cons (ed_var 2) ad_nil)))) (wd_or1 (td_not (td_chain vb_le op_le vb_le op_le (ed_var 3) (ed_var 2) (ed_cb vc_len call_len_seq B.len (ad_cons (ed_var 0) ad_nil)))))))
  (ssd_one sd_never)
  ssd_nil))
theorem ok_ask_version (F : FunD K "ask_version" "ask_version" (defArgs s_ask_version) (defBody s_ask_version) (defScope s_ask_version) dvs kws f fd) (c_is_number : Kf P w K mg base 2 "is_number" (spD K 1 F_is_number) []) (c_many_of : Kf P w K mg base 1 "many_of" (spD K 1 F_many_of) []) : FnOk P w K mg base CX0 3 f fd ["history", "word", "version", "least"] (spD K 4 F_ask_version) :=
  fnD F sc_ask_version rfl rfl fun cdv A outer s H E hr => (ssd_one (sd_if (td_not (WD.td (wd_and (td_val (ed_call c_is_number hr (by decide) dvs0 runF_len (ad_cons (ed_var 2) ad_nil))) (wd_and1 (td_chain vb_le op_le vb_le op_le (ed_var 3) (ed_var 2) (ed_call c_many_of hr (by decide) dvs0 runF_len (ad_cons (ed_var 0) ad_nil)))))))
  (ssd_one sd_never)
  ssd_nil))
theorem ok_is_heights (B : Bi mg) (F : FunD K "is_heights" "is_heights" (defArgs s_is_heights) (defBody s_is_heights) (defScope s_is_heights) dvs kws f fd) (c_is_natural : Kf P w K mg base 2 "is_natural" (spD K 1 F_is_natural) []) : FnOk P w K mg base CX0 3 f fd ["history", "thing"] (spD K 2 F_is_heights) :=
  fnD F sc_is_heights rfl rfl fun cdv A outer s H E hr => (ssd_cons (sd_if (WD.td (wd_or (td_not (td_val (ed_isi .tuple (ed_var 1) B.isinstance B.tuple))) (wd_or1 (td_cmp vb_ne (op_neD hr.units) (nomark _) (ed_cb vc_len call_len_seq B.len (ad_cons (ed_var 1) ad_nil)) (ed_cb vc_len call_len_seq B.len (ad_cons (ed_var 0) ad_nil))))))
  (ssd_one (sd_ret ed_bl))
  ssd_nil)
  (ssd_cons (sd_ret (ed_cb vc_all (cr_all rfl) B.all (ad_cons (ed_lc (own := [("height", 2)]) rfl sc_is_heights.nd (id_seq (ed_var 1)) (by first | decide | with_unfolding_all rfl) (by decide) (fun _ _ _ _ _ => (gd_name (i := 2) sc_is_heights.nd rfl (by first | exact .inl rfl | exact .inr rfl))) (fun _ _ _ _ _ => ptd_nil) (fun _ _ _ _ _ => (ed_call c_is_natural hr (by decide) dvs0 runF_len (ad_cons (ed_var 2) ad_nil)))) ad_nil)))
  ssd_nil))
theorem ok_path_of (B : Bi mg) (F : FunD K "path_of" "path_of" (defArgs s_path_of) (defBody s_path_of) (defScope s_path_of) dvs kws f fd) (c__upward : Kf P w K mg base 1 "_upward" (spD K 2 F__upward) []) (c_check_version_3 : Kf P w K mg base 3 "check_version" (spD K 4 F_check_version) [.int 0]) : FnOk P w K mg base CX0 4 f fd ["history", "version"] (spD K 2 F_path_of) :=
  fnD F sc_path_of rfl rfl fun cdv A outer s H E hr => (ssd_cons (sd_expr (ed_call c_check_version_3 hr (by decide) (dvsI dvs0) runF_len (ad_cons (ed_var 0) (ad_cons ed_str (ad_cons (ed_var 1) ad_nil)))))
  (ssd_cons (sd_setF 2 sc_path_of.nd (ed_op vb_add op_add3 (ed_lst (ad_cons (ed_var 1) ad_nil)) (ed_call c__upward hr (by decide) dvs0 runF_len (ad_cons (ed_var 0) (ad_cons (ed_var 1) ad_nil)))))
  (ssd_cons (sd_ret (ed_ct vc_tuple call_tuple_of B.tuple (ad_cons (ed_lc (own := [("elder", 3)]) rfl sc_path_of.nd (id_rev (ed_var 2) B.reversed) (by first | decide | with_unfolding_all rfl) (by decide) (fun _ _ _ _ _ => (gd_name (i := 3) sc_path_of.nd rfl (by first | exact .inl rfl | exact .inr rfl))) (fun _ _ _ _ _ => (ptd_one (td_cmp vb_gt op_gt (nomark _) (ed_var 3) ed_int))) (fun _ _ _ _ _ => (ed_var 3))) ad_nil)))
  ssd_nil)))
theorem ok_is_elder (F : FunD K "is_elder" "is_elder" (defArgs s_is_elder) (defBody s_is_elder) (defScope s_is_elder) dvs kws f fd) (c__upward : Kf P w K mg base 1 "_upward" (spD K 2 F__upward) []) (c_check_version_3 : Kf P w K mg base 3 "check_version" (spD K 4 F_check_version) [.int 0]) : FnOk P w K mg base CX0 4 f fd ["history", "one", "other"] (spD K 3 F_is_elder) :=
  fnD F sc_is_elder rfl rfl fun cdv A outer s H E hr => (ssd_cons (sd_expr (ed_call c_check_version_3 hr (by decide) (dvsI dvs0) runF_len (ad_cons (ed_var 0) (ad_cons ed_str (ad_cons (ed_var 1) ad_nil)))))
  (ssd_cons (sd_expr (ed_call c_check_version_3 hr (by decide) (dvsI dvs0) runF_len (ad_cons (ed_var 0) (ad_cons ed_str (ad_cons (ed_var 2) ad_nil)))))
  (ssd_cons (sd_ret (ed_cmp vb_inB op_in_seq (by with_unfolding_all rfl) (ed_var 1) (ed_call c__upward hr (by decide) dvs0 runF_len (ad_cons (ed_var 0) (ad_cons (ed_var 2) ad_nil)))))
  ssd_nil)))
theorem ok_bases_by (B : Bi mg) (F : FunD K "bases_by" "bases_by" (defArgs s_bases_by) (defBody s_bases_by) (defScope s_bases_by) dvs kws f fd) (c_is_heights : Kf P w K mg base 3 "is_heights" (spD K 2 F_is_heights) []) : FnOk P w K mg base CX0 4 f fd ["history", "heights"] (spD K 2 F_bases_by) :=
  fnD F sc_bases_by rfl rfl fun cdv A outer s H E hr => (ssd_cons (sd_if (td_not (td_val (ed_call c_is_heights hr (by decide) dvs0 runF_len (ad_cons (ed_var 0) (ad_cons (ed_var 1) ad_nil)))))
  (ssd_one sd_never)
  ssd_nil)
  (ssd_cons (sd_set 2 sc_bases_by.nd (ed_lst ad_nil))
  (ssd_cons (sd_for rfl PassesOwn.never (id_zip (ed_var 1) (ed_var 0) B.zip) (gd_tup rfl (gsd_cons (i := 3) sc_bases_by.nd rfl (by first | exact .inl rfl | exact .inr rfl) (gsd_cons (i := 4) sc_bases_by.nd rfl (by first | exact .inl rfl | exact .inr rfl) gsd_nil)))
  (ssd_cons (sd_setF 5 sc_bases_by.nd (ed_var 4))
  (ssd_cons (sd_while (fuI 5) PassesOwn.never (WD.td (wd_and (td_cmp vb_ne (op_neD hr.units) (nomark _) (ed_var 5) ed_int) (wd_and1 (td_cmp vb_le op_le (nomark _) (ed_ix (ed_var 1) (ed_op vb_sub op_sub (ed_var 5) ed_int)) (ed_var 3)))))
  (ssd_one (sd_setF 5 sc_bases_by.nd (ed_ix (ed_var 0) (ed_op vb_sub op_sub (ed_var 5) ed_int)))))
  (ssd_cons (sd_expr (ed_app 2 (ed_var 5)))
  ssd_nil))))
  (ssd_cons (sd_ret (ed_ct vc_tuple call_tuple_of B.tuple (ad_cons (ed_var 2) ad_nil)))
  ssd_nil))))
theorem ok_is_bases (B : Bi mg) (F : FunD K "is_bases" "is_bases" (defArgs s_is_bases) (defBody s_is_bases) (defScope s_is_bases) dvs kws f fd) (c_is_elder : Kf P w K mg base 4 "is_elder" (spD K 3 F_is_elder) []) (c_is_number : Kf P w K mg base 2 "is_number" (spD K 1 F_is_number) []) (c_many_of : Kf P w K mg base 1 "many_of" (spD K 1 F_many_of) []) : FnOk P w K mg base CX0 5 f fd ["history", "thing"] (spD K 2 F_is_bases) :=
  fnD F sc_is_bases rfl rfl fun cdv A outer s H E hr => (ssd_cons (sd_if (td_not (WD.td (wd_and (td_val (ed_isi .tuple (ed_var 1) B.isinstance B.tuple)) (wd_and1 (td_cmp vb_eq (op_eqD hr.units) (nomark _) (ed_cb vc_len call_len_seq B.len (ad_cons (ed_var 1) ad_nil)) (ed_call c_many_of hr (by decide) dvs0 runF_len (ad_cons (ed_var 0) ad_nil)))))))
  (ssd_one (sd_ret ed_bl))
  ssd_nil)
  (ssd_cons (sd_for rfl PassesOwn.never (id_enum (ed_var 1) B.enumerate) (gd_tup rfl (gsd_cons (i := 2) sc_is_bases.nd rfl (by first | exact .inl rfl | exact .inr rfl) (gsd_cons (i := 3) sc_is_bases.nd rfl (by first | exact .inl rfl | exact .inr rfl) gsd_nil)))
  (ssd_one (sd_if (td_not (WD.td (wd_and (td_val (ed_call c_is_number hr (by decide) dvs0 runF_len (ad_cons (ed_var 3) ad_nil))) (wd_and (td_cmp vb_le op_le (nomark _) (ed_var 3) (ed_var 2)) (wd_and1 (td_val (ed_call c_is_elder hr (by decide) dvs0 runF_len (ad_cons (ed_var 0) (ad_cons (ed_var 3) (ad_cons (ed_op vb_add op_add3 (ed_var 2) ed_int) ad_nil))))))))))
  (ssd_one (sd_ret ed_bl))
  ssd_nil)))
  (ssd_cons (sd_ret ed_bl)
  ssd_nil)))
theorem ok_first_crossing (B : Bi mg) (F : FunD K "first_crossing" "first_crossing" (defArgs s_first_crossing) (defBody s_first_crossing) (defScope s_first_crossing) dvs kws f fd) (c_many_of : Kf P w K mg base 1 "many_of" (spD K 1 F_many_of) []) (c_path_of : Kf P w K mg base 4 "path_of" (spD K 2 F_path_of) []) : FnOk P w K mg base CX0 5 f fd ["history", "bases"] (spD K 2 F_first_crossing) :=
  fnD F sc_first_crossing rfl rfl fun cdv A outer s H E hr => (ssd_cons (sd_for rfl PassesOwn.never (id_rng2 ed_int (ed_op vb_add op_add3 (ed_call c_many_of hr (by decide) dvs0 runF_len (ad_cons (ed_var 0) ad_nil)) ed_int) B.range) (gd_name (i := 2) sc_first_crossing.nd rfl (by first | exact .inl rfl | exact .inr rfl))
  (ssd_cons (sd_setF 3 sc_first_crossing.nd (ed_ix (ed_var 1) (ed_op vb_sub op_sub (ed_var 2) ed_int)))
  (ssd_cons (sd_for rfl PassesOwn.never (id_seq (ed_call c_path_of hr (by decide) dvs0 runF_len (ad_cons (ed_var 0) (ad_cons (ed_var 2) ad_nil)))) (gd_name (i := 4) sc_first_crossing.nd rfl (by first | exact .inl rfl | exact .inr rfl))
  (ssd_one (sd_if (WD.td (wd_and (td_cmp vb_lt op_lt (nomark _) (ed_var 3) (ed_var 4)) (wd_and1 (td_cmp vb_lt op_lt (nomark _) (ed_ix (ed_var 1) (ed_op vb_sub op_sub (ed_var 4) ed_int)) (ed_var 3)))))
  (ssd_one (sd_ret (ed_tup (ad_cons (ed_var 4) (ad_cons (ed_var 2) ad_nil)))))
  ssd_nil)))
  ssd_nil)))
  (ssd_cons (sd_ret ed_non)
  ssd_nil))
theorem ok_sheet_from (B : Bi mg) (F : FunD K "sheet_from" "sheet_from" (defArgs s_sheet_from) (defBody s_sheet_from) (defScope s_sheet_from) dvs kws f fd) (c_path_of : Kf P w K mg base 4 "path_of" (spD K 2 F_path_of) []) : FnOk P w K mg base CX0 5 f fd ["history", "bases", "version"] (spD K 3 F_sheet_from) :=
  fnD F sc_sheet_from rfl rfl fun cdv A outer s H E hr => (ssd_one (sd_ret (ed_ct vc_tuple call_tuple_of B.tuple (ad_cons (ed_lc (own := [("change", 3)]) rfl sc_sheet_from.nd (id_seq (ed_call c_path_of hr (by decide) dvs0 runF_len (ad_cons (ed_var 0) (ad_cons (ed_var 2) ad_nil)))) (by first | decide | with_unfolding_all rfl) (by decide) (fun _ _ _ _ _ => (gd_name (i := 3) sc_sheet_from.nd rfl (by first | exact .inl rfl | exact .inr rfl))) (fun _ _ _ _ _ => (ptd_one (td_cmp vb_gt op_gt (nomark _) (ed_var 3) (ed_ix (ed_var 1) (ed_op vb_sub op_sub (ed_var 2) ed_int))))) (fun _ _ _ _ _ => (ed_var 3))) ad_nil))))
theorem ok_records_of (B : Bi mg) (F : FunD K "records_of" "records_of" (defArgs s_records_of) (defBody s_records_of) (defScope s_records_of) dvs kws f fd) (c_bases_by : Kf P w K mg base 4 "bases_by" (spD K 2 F_bases_by) []) (c_is_number : Kf P w K mg base 2 "is_number" (spD K 1 F_is_number) []) : FnOk P w K mg base CX0 5 f fd ["history", "heights", "version"] (spD K 3 F_records_of) :=
  fnD F sc_records_of rfl rfl fun cdv A outer s H E hr => (ssd_cons (sd_setF 3 sc_records_of.nd (ed_call c_bases_by hr (by decide) dvs0 runF_len (ad_cons (ed_var 0) (ad_cons (ed_var 1) ad_nil))))
  (ssd_cons (sd_if (WD.td (wd_or (td_not (td_val (ed_call c_is_number hr (by decide) dvs0 runF_len (ad_cons (ed_var 2) ad_nil)))) (wd_or1 (td_cmp vb_gt op_gt (nomark _) (ed_var 2) (ed_cb vc_len call_len_seq B.len (ad_cons (ed_var 0) ad_nil))))))
  (ssd_one sd_never)
  ssd_nil)
  (ssd_cons (sd_set 4 sc_records_of.nd (ed_lst ad_nil))
  (ssd_cons (sd_setF 5 sc_records_of.nd (ed_var 2))
  (ssd_cons (sd_while (fuI 5) PassesOwn.never (td_cmp vb_ne (op_neD hr.units) (nomark _) (ed_var 5) ed_int)
  (ssd_cons (sd_expr (ed_app 4 (ed_var 5)))
  (ssd_cons (sd_setF 5 sc_records_of.nd (ed_ix (ed_var 3) (ed_op vb_sub op_sub (ed_var 5) ed_int)))
  ssd_nil)))
  (ssd_cons (sd_ret (ed_ct vc_tuple call_tuple_of B.tuple (ad_cons (ed_var 4) ad_nil)))
  ssd_nil))))))
theorem ok_is_plan (F : FunD K "is_plan" "is_plan" (defArgs s_is_plan) (defBody s_is_plan) (defScope s_is_plan) dvs kws f fd) (c_first_crossing : Kf P w K mg base 5 "first_crossing" (spD K 2 F_first_crossing) []) (c_is_bases : Kf P w K mg base 5 "is_bases" (spD K 2 F_is_bases) []) : FnOk P w K mg base CX0 6 f fd ["history", "thing"] (spD K 2 F_is_plan) :=
  fnD F sc_is_plan rfl rfl fun cdv A outer s H E hr => (ssd_one (sd_ret (ed_and (ed_call c_is_bases hr (by decide) dvs0 runF_len (ad_cons (ed_var 0) (ad_cons (ed_var 1) ad_nil))) (ed_one (ed_cmp vb_is op_is2 (nomark _) (ed_call c_first_crossing hr (by decide) dvs0 runF_len (ad_cons (ed_var 0) (ad_cons (ed_var 1) ad_nil))) ed_non)))))
theorem ok_crossing_of (F : FunD K "crossing_of" "crossing_of" (defArgs s_crossing_of) (defBody s_crossing_of) (defScope s_crossing_of) dvs kws f fd) (c_first_crossing : Kf P w K mg base 5 "first_crossing" (spD K 2 F_first_crossing) []) (c_is_bases : Kf P w K mg base 5 "is_bases" (spD K 2 F_is_bases) []) : FnOk P w K mg base CX0 6 f fd ["history", "bases"] (spD K 2 F_crossing_of) :=
  fnD F sc_crossing_of rfl rfl fun cdv A outer s H E hr => (ssd_cons (sd_if (td_not (td_val (ed_call c_is_bases hr (by decide) dvs0 runF_len (ad_cons (ed_var 0) (ad_cons (ed_var 1) ad_nil)))))
  (ssd_one sd_never)
  ssd_nil)
  (ssd_cons (sd_ret (ed_call c_first_crossing hr (by decide) dvs0 runF_len (ad_cons (ed_var 0) (ad_cons (ed_var 1) ad_nil))))
  ssd_nil))
theorem ok_ask_bases (F : FunD K "ask_bases" "ask_bases" (defArgs s_ask_bases) (defBody s_ask_bases) (defScope s_ask_bases) dvs kws f fd) (c_is_bases : Kf P w K mg base 5 "is_bases" (spD K 2 F_is_bases) []) : FnOk P w K mg base CX0 6 f fd ["history", "bases"] (spD K 2 F_ask_bases) :=
  fnD F sc_ask_bases rfl rfl fun cdv A outer s H E hr => (ssd_one (sd_if (td_not (td_val (ed_call c_is_bases hr (by decide) dvs0 runF_len (ad_cons (ed_var 0) (ad_cons (ed_var 1) ad_nil)))))
  (ssd_one sd_never)
  ssd_nil))
theorem ok_chain_of (B : Bi mg) (F : FunD K "chain_of" "chain_of" (defArgs s_chain_of) (defBody s_chain_of) (defScope s_chain_of) dvs kws f fd) (c_ask_bases : Kf P w K mg base 6 "ask_bases" (spD K 2 F_ask_bases) []) (c_ask_version : Kf P w K mg base 3 "ask_version" (spD K 4 F_ask_version) []) (c_chain_from : Kf P w K mg base 1 "chain_from" (spD K 2 F_chain_from) []) : FnOk P w K mg base CX0 7 f fd ["history", "bases", "version"] (spD K 3 F_chain_of) :=
  fnD F sc_chain_of rfl rfl fun cdv A outer s H E hr => (ssd_cons (sd_expr (ed_call c_ask_bases hr (by decide) dvs0 runF_len (ad_cons (ed_var 0) (ad_cons (ed_var 1) ad_nil))))
  (ssd_cons (sd_expr (ed_call c_ask_version hr (by decide) dvs0 runF_len (ad_cons (ed_var 0) (ad_cons ed_str (ad_cons (ed_var 2) (ad_cons ed_int ad_nil))))))
  (ssd_cons (sd_ret (ed_ct vc_tuple call_tuple_of B.tuple (ad_cons (ed_call c_chain_from hr (by decide) dvs0 runF_len (ad_cons (ed_var 1) (ad_cons (ed_var 2) ad_nil))) ad_nil)))
  ssd_nil)))
theorem ok_reads_by (B : Bi mg) (F : FunD K "reads_by" "reads_by" (defArgs s_reads_by) (defBody s_reads_by) (defScope s_reads_by) dvs kws f fd) (c_ask_bases : Kf P w K mg base 6 "ask_bases" (spD K 2 F_ask_bases) []) : FnOk P w K mg base CX0 7 f fd ["history", "bases"] (spD K 2 F_reads_by) :=
  fnD F sc_reads_by rfl rfl fun cdv A outer s H E hr => (ssd_cons (sd_expr (ed_call c_ask_bases hr (by decide) dvs0 runF_len (ad_cons (ed_var 0) (ad_cons (ed_var 1) ad_nil))))
  (ssd_cons (sd_set 2 sc_reads_by.nd (ed_lst (ad_cons ed_int ad_nil)))
  (ssd_cons (sd_for rfl PassesOwn.never (id_seq (ed_var 1)) (gd_name (i := 3) sc_reads_by.nd rfl (by first | exact .inl rfl | exact .inr rfl))
  (ssd_one (sd_expr (ed_app 2 (ed_op vb_add op_add3 (ed_ix (ed_var 2) (ed_var 3)) ed_int)))))
  (ssd_cons (sd_ret (ed_ct vc_tuple call_tuple_of B.tuple (ad_cons (ed_var 2) ad_nil)))
  ssd_nil))))
theorem ok_writes_by (B : Bi mg) (F : FunD K "writes_by" "writes_by" (defArgs s_writes_by) (defBody s_writes_by) (defScope s_writes_by) dvs kws f fd) (c_ask_bases : Kf P w K mg base 6 "ask_bases" (spD K 2 F_ask_bases) []) (c_many_of : Kf P w K mg base 1 "many_of" (spD K 1 F_many_of) []) (c_sheet_from : Kf P w K mg base 5 "sheet_from" (spD K 3 F_sheet_from) []) : FnOk P w K mg base CX0 7 f fd ["history", "bases"] (spD K 2 F_writes_by) :=
  fnD F sc_writes_by rfl rfl fun cdv A outer s H E hr => (ssd_cons (sd_expr (ed_call c_ask_bases hr (by decide) dvs0 runF_len (ad_cons (ed_var 0) (ad_cons (ed_var 1) ad_nil))))
  (ssd_cons (sd_set 2 sc_writes_by.nd (ed_rep (ad_cons ed_int ad_nil) (ed_op vb_add op_add3 (ed_call c_many_of hr (by decide) dvs0 runF_len (ad_cons (ed_var 0) ad_nil)) ed_int)))
  (ssd_cons (sd_for rfl PassesOwn.never (id_rng2 ed_int (ed_op vb_add op_add3 (ed_call c_many_of hr (by decide) dvs0 runF_len (ad_cons (ed_var 0) ad_nil)) ed_int) B.range) (gd_name (i := 3) sc_writes_by.nd rfl (by first | exact .inl rfl | exact .inr rfl))
  (ssd_one (sd_for rfl PassesOwn.never (id_seq (ed_call c_sheet_from hr (by decide) dvs0 runF_len (ad_cons (ed_var 0) (ad_cons (ed_var 1) (ad_cons (ed_var 3) ad_nil))))) (gd_name (i := 4) sc_writes_by.nd rfl (by first | exact .inl rfl | exact .inr rfl))
  (ssd_one (sd_augI (fun i j => i + j) ip_add 2 (ed_var 4) ed_int)))))
  (ssd_cons (sd_ret (ed_ct vc_tuple call_tuple_of B.tuple (ad_cons (ed_sl (ed_var 2) (od_at ed_int) od_no) ad_nil)))
  ssd_nil))))
theorem ok__law_crossed_right (B : Bi mg) (F : FunD K "_law_crossed_right" "_law_crossed_right" (defArgs s__law_crossed_right) (defBody s__law_crossed_right) (defScope s__law_crossed_right) dvs kws f fd) (c__law_crossing : Kf P w K mg base 1 "_law_crossing" (spD K 2 F__law_crossing) []) (c__law_same : Kf P w K mg base 1 "_law_same" (spD K 2 F__law_same) []) (c_crossing_of : Kf P w K mg base 6 "crossing_of" (spD K 2 F_crossing_of) []) (c_is_bases : Kf P w K mg base 5 "is_bases" (spD K 2 F_is_bases) []) (c_is_plan : Kf P w K mg base 6 "is_plan" (spD K 2 F_is_plan) []) : FnOk P w K mg base CX0 7 f fd ["_law_history_here", "_law_elders_here", "_law_bases"] (spD K 3 F__law_crossed_right) :=
  fnD F sc__law_crossed_right rfl rfl fun cdv A outer s H E hr => (ssd_cons (sd_setF 3 sc__law_crossed_right.nd (ed_call c_crossing_of hr (by decide) dvs0 runF_len (ad_cons (ed_var 0) (ad_cons (ed_var 2) ad_nil))))
  (ssd_cons (sd_setF 4 sc__law_crossed_right.nd (ed_call c__law_crossing hr (by decide) dvs0 runF_len (ad_cons (ed_var 1) (ad_cons (ed_var 2) ad_nil))))
  (ssd_cons (sd_setF 5 sc__law_crossed_right.nd (ed_call c_is_plan hr (by decide) dvs0 runF_len (ad_cons (ed_var 0) (ad_cons (ed_var 2) ad_nil))))
  (ssd_cons (sd_if (WD.td (wd_or (td_cmp vb_isnot op_isnot2 (nomark _) (ed_call c_is_bases hr (by decide) dvs0 runF_len (ad_cons (ed_var 0) (ad_cons (ed_var 2) ad_nil))) ed_bl) (wd_or (td_not (td_val (ed_isi .bool (ed_var 5) B.isinstance B.bool))) (wd_or1 (td_cmp vb_ne (op_neD hr.units) (nomark _) (ed_var 5) (ed_cmp vb_is op_is2 (nomark _) (ed_var 4) ed_non))))))
  (ssd_one (sd_ret ed_bl))
  ssd_nil)
  (ssd_cons (sd_if (td_cmp vb_is op_is2 (nomark _) (ed_var 4) ed_non)
  (ssd_one (sd_ret (ed_cmp vb_is op_is2 (nomark _) (ed_var 3) ed_non)))
  ssd_nil)
  (ssd_cons (sd_ret (ed_call c__law_same hr (by decide) dvs0 runF_len (ad_cons (ed_var 3) (ad_cons (ed_var 4) ad_nil))))
  ssd_nil))))))
theorem ok_heights_of (B : Bi mg) (F : FunD K "heights_of" "heights_of" (defArgs s_heights_of) (defBody s_heights_of) (defScope s_heights_of) dvs kws f fd) (c_is_bases : Kf P w K mg base 5 "is_bases" (spD K 2 F_is_bases) []) (c_reads_by : Kf P w K mg base 7 "reads_by" (spD K 2 F_reads_by) []) : FnOk P w K mg base CX0 8 f fd ["history", "bases"] (spD K 2 F_heights_of) :=
  fnD F sc_heights_of rfl rfl fun cdv A outer s H E hr => (ssd_cons (sd_if (td_not (td_val (ed_call c_is_bases hr (by decide) dvs0 runF_len (ad_cons (ed_var 0) (ad_cons (ed_var 1) ad_nil)))))
  (ssd_one sd_never)
  ssd_nil)
  (ssd_cons (sd_setF 2 sc_heights_of.nd (ed_call c_reads_by hr (by decide) dvs0 runF_len (ad_cons (ed_var 0) (ad_cons (ed_var 1) ad_nil))))
  (ssd_cons (sd_setF 3 sc_heights_of.nd (ed_cb vc_maxA (cr_maxA rfl hr.units) B.max (ad_cons (ed_var 2) ad_nil)))
  (ssd_cons (sd_ret (ed_ct vc_tuple call_tuple_of B.tuple (ad_cons (ed_lc (own := [("many", 4)]) rfl sc_heights_of.nd (id_seq (ed_sl (ed_var 2) (od_at ed_int) od_no)) (by first | decide | with_unfolding_all rfl) (by decide) (fun _ _ _ _ _ => (gd_name (i := 4) sc_heights_of.nd rfl (by first | exact .inl rfl | exact .inr rfl))) (fun _ _ _ _ _ => ptd_nil) (fun _ _ _ _ _ => (ed_op vb_sub op_sub (ed_op vb_add op_add3 (ed_var 3) ed_int) (ed_var 4)))) ad_nil)))
  ssd_nil))))
theorem ok__law_counts_right (F : FunD K "_law_counts_right" "_law_counts_right" (defArgs s__law_counts_right) (defBody s__law_counts_right) (defScope s__law_counts_right) dvs kws f fd) (c__law_reads : Kf P w K mg base 1 "_law_reads" (spD K 1 F__law_reads) []) (c__law_same : Kf P w K mg base 1 "_law_same" (spD K 2 F__law_same) []) (c__law_writes : Kf P w K mg base 1 "_law_writes" (spD K 2 F__law_writes) []) (c_reads_by : Kf P w K mg base 7 "reads_by" (spD K 2 F_reads_by) []) (c_writes_by : Kf P w K mg base 7 "writes_by" (spD K 2 F_writes_by) []) : FnOk P w K mg base CX0 8 f fd ["_law_history_here", "_law_elders_here", "_law_bases"] (spD K 3 F__law_counts_right) :=
  fnD F sc__law_counts_right rfl rfl fun cdv A outer s H E hr => (ssd_one (sd_ret (ed_and (ed_call c__law_same hr (by decide) dvs0 runF_len (ad_cons (ed_call c_reads_by hr (by decide) dvs0 runF_len (ad_cons (ed_var 0) (ad_cons (ed_var 2) ad_nil))) (ad_cons (ed_call c__law_reads hr (by decide) dvs0 runF_len (ad_cons (ed_var 2) ad_nil)) ad_nil))) (ed_one (ed_call c__law_same hr (by decide) dvs0 runF_len (ad_cons (ed_call c_writes_by hr (by decide) dvs0 runF_len (ad_cons (ed_var 0) (ad_cons (ed_var 2) ad_nil))) (ad_cons (ed_call c__law_writes hr (by decide) dvs0 runF_len (ad_cons (ed_var 1) (ad_cons (ed_var 2) ad_nil))) ad_nil)))))))
theorem ok__law_records_right (B : Bi mg) (F : FunD K "_law_records_right" "_law_records_right" (defArgs s__law_records_right) (defBody s__law_records_right) (defScope s__law_records_right) dvs kws f fd) (c__law_reads : Kf P w K mg base 1 "_law_reads" (spD K 1 F__law_reads) []) (c__law_same : Kf P w K mg base 1 "_law_same" (spD K 2 F__law_same) []) (c_chain_of : Kf P w K mg base 7 "chain_of" (spD K 3 F_chain_of) []) (c_records_of : Kf P w K mg base 5 "records_of" (spD K 3 F_records_of) []) : FnOk P w K mg base CX0 8 f fd ["_law_history_here", "_law_plan", "_law_heights_here"] (spD K 3 F__law_records_right) :=
  fnD F sc__law_records_right rfl rfl fun cdv A outer s H E hr => (ssd_cons (sd_setF 3 sc__law_records_right.nd (ed_call c__law_reads hr (by decide) dvs0 runF_len (ad_cons (ed_var 1) ad_nil)))
  (ssd_cons (sd_for rfl PassesOwn.never (id_rng1 (ed_cb vc_len call_len_seq B.len (ad_cons (ed_var 3) ad_nil)) B.range) (gd_name (i := 4) sc__law_records_right.nd rfl (by first | exact .inl rfl | exact .inr rfl))
  (ssd_cons (sd_setF 5 sc__law_records_right.nd (ed_call c_records_of hr (by decide) dvs0 runF_len (ad_cons (ed_var 0) (ad_cons (ed_var 2) (ad_cons (ed_var 4) ad_nil)))))
  (ssd_cons (sd_set 6 sc__law_records_right.nd (ed_lst ad_nil))
  (ssd_cons (sd_setF 7 sc__law_records_right.nd (ed_var 4))
  (ssd_cons (sd_for rfl PassesOwn.never (id_rng1 (ed_ix (ed_var 3) (ed_var 4)) B.range) (gd_name (i := 8) sc__law_records_right.nd rfl (by first | exact .inl rfl | exact .inr rfl))
  (ssd_cons (sd_expr (ed_app 6 (ed_var 7)))
  (ssd_cons (sd_setF 7 sc__law_records_right.nd (ed_ix (ed_var 1) (ed_op vb_sub op_sub (ed_var 7) ed_int)))
  ssd_nil)))
  (ssd_cons (SD.fz 6 (sd_if (WD.td (wd_or (td_not (td_val (ed_call c__law_same hr (by decide) dvs0 runF_len (ad_cons (ed_var 5) (ad_cons (ed_var 6) ad_nil))))) (wd_or1 (td_not (td_val (ed_call c__law_same hr (by decide) dvs0 runF_len (ad_cons (ed_call c_chain_of hr (by decide) dvs0 runF_len (ad_cons (ed_var 0) (ad_cons (ed_var 1) (ad_cons (ed_var 4) ad_nil)))) (ad_cons (ed_var 6) ad_nil))))))))
  (ssd_one (sd_ret ed_bl))
  ssd_nil))
  (ssd_cons (by first | exact sd_setLcF 9 (own := [("_law_z", 10)]) rfl sc__law_records_right.nd (id_seq (ed_var 5)) (by first | decide | with_unfolding_all rfl) (by decide) (fun _ _ _ _ _ => (gd_name (i := 10) sc__law_records_right.nd rfl (by first | exact .inl rfl | exact .inr rfl))) (fun _ _ _ _ _ => ptd_nil) (fun _ _ _ _ _ => (ed_ix (ed_var 2) (ed_op vb_sub op_sub (ed_var 10) ed_int))) | exact sd_setF 9 sc__law_records_right.nd (ed_lc (own := [("_law_z", 10)]) rfl sc__law_records_right.nd (id_seq (ed_var 5)) (by first | decide | with_unfolding_all rfl) (by decide) (fun _ _ _ _ _ => (gd_name (i := 10) sc__law_records_right.nd rfl (by first | exact .inl rfl | exact .inr rfl))) (fun _ _ _ _ _ => ptd_nil) (fun _ _ _ _ _ => (ed_ix (ed_var 2) (ed_op vb_sub op_sub (ed_var 10) ed_int)))))
  (ssd_cons (sd_if (td_not (td_val (ed_cb vc_all (cr_all rfl) B.all (ad_cons (ed_lc (own := [("_law_a", 11), ("_law_b", 12)]) rfl sc__law_records_right.nd (id_zip (ed_var 9) (ed_sl (ed_var 9) (od_at ed_int) od_no) B.zip) (by first | decide | with_unfolding_all rfl) (by decide) (fun _ _ _ _ _ => (gd_tup rfl (gsd_cons (i := 11) sc__law_records_right.nd rfl (by first | exact .inl rfl | exact .inr rfl) (gsd_cons (i := 12) sc__law_records_right.nd rfl (by first | exact .inl rfl | exact .inr rfl) gsd_nil)))) (fun _ _ _ _ _ => ptd_nil) (fun _ _ _ _ _ => (ed_cmp vb_lt op_lt (nomark _) (ed_var 11) (ed_var 12)))) ad_nil))))
  (ssd_one (sd_ret ed_bl))
  ssd_nil)
  ssd_nil))))))))
  (ssd_cons (sd_ret ed_bl)
  ssd_nil)))
theorem ok__law_led_right (F : FunD K "_law_led_right" "_law_led_right" (defArgs s__law_led_right) (defBody s__law_led_right) (defScope s__law_led_right) dvs kws f fd) (c__law_all_at_most : Kf P w K mg base 1 "_law_all_at_most" (spD K 2 F__law_all_at_most) []) (c__law_crossed_right : Kf P w K mg base 7 "_law_crossed_right" (spD K 3 F__law_crossed_right) []) (c__law_crossing : Kf P w K mg base 1 "_law_crossing" (spD K 2 F__law_crossing) []) (c__law_heights : Kf P w K mg base 2 "_law_heights" (spD K 1 F__law_heights) []) (c__law_higher : Kf P w K mg base 1 "_law_higher" (spD K 2 F__law_higher) []) (c__law_reads : Kf P w K mg base 1 "_law_reads" (spD K 1 F__law_reads) []) (c__law_same : Kf P w K mg base 1 "_law_same" (spD K 2 F__law_same) []) (c__law_writes : Kf P w K mg base 1 "_law_writes" (spD K 2 F__law_writes) []) (c_bases_by : Kf P w K mg base 4 "bases_by" (spD K 2 F_bases_by) []) (c_heights_of : Kf P w K mg base 8 "heights_of" (spD K 2 F_heights_of) []) : FnOk P w K mg base CX0 9 f fd ["_law_history_here", "_law_elders_here", "_law_bases"] (spD K 3 F__law_led_right) :=
  fnD F sc__law_led_right rfl rfl fun cdv A outer s H E hr => (ssd_cons (sd_if (td_not (td_val (ed_call c__law_crossed_right hr (by decide) dvs0 runF_len (ad_cons (ed_var 0) (ad_cons (ed_var 1) (ad_cons (ed_var 2) ad_nil))))))
  (ssd_one (sd_ret ed_bl))
  ssd_nil)
  (ssd_cons (sd_setF 3 sc__law_led_right.nd (ed_call c_heights_of hr (by decide) dvs0 runF_len (ad_cons (ed_var 0) (ad_cons (ed_var 2) ad_nil))))
  (ssd_cons (sd_if (td_not (td_val (ed_call c__law_same hr (by decide) dvs0 runF_len (ad_cons (ed_var 3) (ad_cons (ed_call c__law_heights hr (by decide) dvs0 runF_len (ad_cons (ed_var 2) ad_nil)) ad_nil)))))
  (ssd_one (sd_ret ed_bl))
  ssd_nil)
  (ssd_cons (sd_setF 4 sc__law_led_right.nd (ed_call c_bases_by hr (by decide) dvs0 runF_len (ad_cons (ed_var 0) (ad_cons (ed_var 3) ad_nil))))
  (ssd_cons (sd_if (td_not (td_val (ed_call c__law_same hr (by decide) dvs0 runF_len (ad_cons (ed_var 4) (ad_cons (ed_call c__law_higher hr (by decide) dvs0 runF_len (ad_cons (ed_var 3) (ad_cons (ed_var 1) ad_nil))) ad_nil)))))
  (ssd_one (sd_ret ed_bl))
  ssd_nil)
  (ssd_cons (sd_if (WD.td (wd_or (td_cmp vb_isnot op_isnot2 (nomark _) (ed_call c__law_crossing hr (by decide) dvs0 runF_len (ad_cons (ed_var 1) (ad_cons (ed_var 4) ad_nil))) ed_non) (wd_or1 (td_cmp vb_ne (op_neD hr.units) (nomark _) (ed_cmp vb_eq (op_eqD hr.units) (nomark _) (ed_var 4) (ed_var 2)) (ed_cmp vb_is op_is2 (nomark _) (ed_call c__law_crossing hr (by decide) dvs0 runF_len (ad_cons (ed_var 1) (ad_cons (ed_var 2) ad_nil))) ed_non)))))
  (ssd_one (sd_ret ed_bl))
  ssd_nil)
  (ssd_cons (sd_if (td_not (td_val (ed_call c__law_all_at_most hr (by decide) dvs0 runF_len (ad_cons (ed_call c__law_reads hr (by decide) dvs0 runF_len (ad_cons (ed_var 4) ad_nil)) (ad_cons (ed_call c__law_reads hr (by decide) dvs0 runF_len (ad_cons (ed_var 2) ad_nil)) ad_nil)))))
  (ssd_one (sd_ret ed_bl))
  ssd_nil)
  (ssd_cons (sd_ret (ed_call c__law_all_at_most hr (by decide) dvs0 runF_len (ad_cons (ed_call c__law_writes hr (by decide) dvs0 runF_len (ad_cons (ed_var 1) (ad_cons (ed_var 4) ad_nil))) (ad_cons (ed_call c__law_writes hr (by decide) dvs0 runF_len (ad_cons (ed_var 1) (ad_cons (ed_var 2) ad_nil))) ad_nil))))
  ssd_nil))))))))
theorem ok__law_by_heights (B : Bi mg) (F : FunD K "_law_by_heights" "_law_by_heights" (defArgs s__law_by_heights) (defBody s__law_by_heights) (defScope s__law_by_heights) dvs kws f fd) (c__law_higher : Kf P w K mg base 1 "_law_higher" (spD K 2 F__law_higher) []) (c__law_records_right : Kf P w K mg base 8 "_law_records_right" (spD K 3 F__law_records_right) []) (c__law_same : Kf P w K mg base 1 "_law_same" (spD K 2 F__law_same) []) (c_bases_by : Kf P w K mg base 4 "bases_by" (spD K 2 F_bases_by) []) (c_heights_of : Kf P w K mg base 8 "heights_of" (spD K 2 F_heights_of) []) (c_is_plan : Kf P w K mg base 6 "is_plan" (spD K 2 F_is_plan) []) : FnOk P w K mg base CX0 9 f fd ["_law_history_here", "_law_elders_here", "_law_heights_here", "_law_more"] (spD K 4 F__law_by_heights) :=
  fnD F sc__law_by_heights rfl rfl fun cdv A outer s H E hr => (ssd_cons (sd_setF 4 sc__law_by_heights.nd (ed_call c_bases_by hr (by decide) dvs0 runF_len (ad_cons (ed_var 0) (ad_cons (ed_var 2) ad_nil))))
  (ssd_cons (sd_if (WD.td (wd_or (td_not (td_val (ed_call c__law_same hr (by decide) dvs0 runF_len (ad_cons (ed_var 4) (ad_cons (ed_call c__law_higher hr (by decide) dvs0 runF_len (ad_cons (ed_var 2) (ad_cons (ed_var 1) ad_nil))) ad_nil))))) (wd_or1 (td_cmp vb_isnot op_isnot2 (nomark _) (ed_call c_is_plan hr (by decide) dvs0 runF_len (ad_cons (ed_var 0) (ad_cons (ed_var 4) ad_nil))) ed_bl))))
  (ssd_one (sd_ret ed_bl))
  ssd_nil)
  (ssd_cons (sd_setF 5 sc__law_by_heights.nd (ed_ct vc_tuple call_tuple_of B.tuple (ad_cons (ed_lc (own := [("_law_h", 7)]) rfl sc__law_by_heights.nd (id_seq (ed_var 2)) (by first | decide | with_unfolding_all rfl) (by decide) (fun _ _ _ _ _ => (gd_name (i := 7) sc__law_by_heights.nd rfl (by first | exact .inl rfl | exact .inr rfl))) (fun _ _ _ _ _ => ptd_nil) (fun _ _ _ _ _ => (ed_op vb_add op_add3 (ed_var 7) (ed_var 3)))) ad_nil)))
  (ssd_cons (sd_setF 6 sc__law_by_heights.nd (ed_ct vc_tuple call_tuple_of B.tuple (ad_cons (ed_lc (own := [("_law_h", 7)]) rfl sc__law_by_heights.nd (id_seq (ed_var 2)) (by first | decide | with_unfolding_all rfl) (by decide) (fun _ _ _ _ _ => (gd_name (i := 7) sc__law_by_heights.nd rfl (by first | exact .inl rfl | exact .inr rfl))) (fun _ _ _ _ _ => ptd_nil) (fun _ _ _ _ _ => (ed_op vb_add op_add3 (ed_op vb_mul op_mul2 (ed_op vb_mul op_mul2 (ed_var 7) (ed_var 7)) ed_int) (ed_var 3)))) ad_nil)))
  (ssd_cons (sd_if (WD.td (wd_or (td_cmp vb_ne (op_neD hr.units) (nomark _) (ed_call c_bases_by hr (by decide) dvs0 runF_len (ad_cons (ed_var 0) (ad_cons (ed_var 5) ad_nil))) (ed_var 4)) (wd_or1 (td_cmp vb_ne (op_neD hr.units) (nomark _) (ed_call c_bases_by hr (by decide) dvs0 runF_len (ad_cons (ed_var 0) (ad_cons (ed_var 6) ad_nil))) (ed_var 4)))))
  (ssd_one (sd_ret ed_bl))
  ssd_nil)
  (ssd_cons (sd_if (td_cmp vb_ne (op_neD hr.units) (nomark _) (ed_call c_bases_by hr (by decide) dvs0 runF_len (ad_cons (ed_var 0) (ad_cons (ed_call c_heights_of hr (by decide) dvs0 runF_len (ad_cons (ed_var 0) (ad_cons (ed_var 4) ad_nil))) ad_nil))) (ed_var 4))
  (ssd_one (sd_ret ed_bl))
  ssd_nil)
  (ssd_cons (sd_ret (ed_call c__law_records_right hr (by decide) dvs0 runF_len (ad_cons (ed_var 0) (ad_cons (ed_var 4) (ad_cons (ed_var 2) ad_nil)))))
  ssd_nil)))))))
theorem ok__law_small (B : Bi mg) (F : FunD K "_law_small" "_law_small" (defArgs s__law_small) (defBody s__law_small) (defScope s__law_small) dvs kws f fd) (c__law_all_rows : Kf P w K mg base 1 "_law_all_rows" (spD K 1 F__law_all_rows) []) (c__law_crossing : Kf P w K mg base 1 "_law_crossing" (spD K 2 F__law_crossing) []) (c__law_elders : Kf P w K mg base 1 "_law_elders" (spD K 1 F__law_elders) []) (c__law_higher : Kf P w K mg base 1 "_law_higher" (spD K 2 F__law_higher) []) (c__law_led_right : Kf P w K mg base 9 "_law_led_right" (spD K 3 F__law_led_right) []) : FnOk P w K mg base CX0 10 f fd ["_law_history_here"] (spD K 1 F__law_small) :=
  fnD F sc__law_small rfl rfl fun cdv A outer s H E hr => (ssd_cons (sd_setF 1 sc__law_small.nd (ed_call c__law_elders hr (by decide) dvs0 runF_len (ad_cons (ed_var 0) ad_nil)))
  (ssd_cons (sd_set 2 sc__law_small.nd (ed_lst ad_nil))
  (ssd_cons (sd_setF 3 sc__law_small.nd (ed_call c__law_all_rows hr (by decide) dvs0 runF_len (ad_cons (ed_sl (ed_var 1) (od_at ed_int) od_no) ad_nil)))
  (ssd_cons (sd_if (td_cmp vb_gt op_gt (nomark _) (ed_cb vc_len call_len_seq B.len (ad_cons (ed_var 3) ad_nil)) ed_int)
  (ssd_one (sd_setF 3 sc__law_small.nd (ed_stp 2 (ed_var 3) od_no od_no)))
  ssd_nil)
  (ssd_cons (sd_for rfl PassesOwn.never (id_seq (ed_var 3)) (gd_name (i := 4) sc__law_small.nd rfl (by first | exact .inl rfl | exact .inr rfl))
  (ssd_cons (sd_if (td_not (td_val (ed_call c__law_led_right hr (by decide) dvs0 runF_len (ad_cons (ed_var 0) (ad_cons (ed_var 1) (ad_cons (ed_var 4) ad_nil))))))
  (ssd_one (sd_ret ed_bl))
  ssd_nil)
  (ssd_cons (sd_if (td_cmp vb_is op_is2 (nomark _) (ed_call c__law_crossing hr (by decide) dvs0 runF_len (ad_cons (ed_var 1) (ad_cons (ed_var 4) ad_nil))) ed_non)
  (ssd_one (sd_expr (ed_app 2 (ed_var 4))))
  ssd_nil)
  ssd_nil)))
  (ssd_cons (sd_if (td_cmp vb_gt op_gt (nomark _) (ed_cb vc_len call_len_seq B.len (ad_cons (ed_var 0) ad_nil)) ed_int)
  (ssd_one (sd_ret (ed_cmp vb_gt op_gt (nomark _) (ed_cb vc_len call_len_seq B.len (ad_cons (ed_var 2) ad_nil)) ed_int)))
  ssd_nil)
  (ssd_cons (sd_setF 5 sc__law_small.nd (ed_lrg (rgd2 ed_int (ed_op vb_add op_add3 (ed_cb vc_len call_len_seq B.len (ad_cons (ed_var 0) ad_nil)) ed_int) B.range) rfl B.list))
  (ssd_cons (by first | exact sd_setLcF 6 (own := [("_law_heights_here", 7)]) rfl sc__law_small.nd (id_seq (ed_call c__law_all_rows hr (by decide) dvs0 runF_len (ad_cons (ed_rep (ad_cons (ed_var 5) ad_nil) (ed_cb vc_len call_len_seq B.len (ad_cons (ed_var 0) ad_nil))) ad_nil))) (by first | decide | with_unfolding_all rfl) (by decide) (fun _ _ _ _ _ => (gd_name (i := 7) sc__law_small.nd rfl (by first | exact .inl rfl | exact .inr rfl))) (fun _ _ _ _ _ => ptd_nil) (fun _ _ _ _ _ => (ed_call c__law_higher hr (by decide) dvs0 runF_len (ad_cons (ed_var 7) (ad_cons (ed_var 1) ad_nil)))) | exact sd_setF 6 sc__law_small.nd (ed_lc (own := [("_law_heights_here", 7)]) rfl sc__law_small.nd (id_seq (ed_call c__law_all_rows hr (by decide) dvs0 runF_len (ad_cons (ed_rep (ad_cons (ed_var 5) ad_nil) (ed_cb vc_len call_len_seq B.len (ad_cons (ed_var 0) ad_nil))) ad_nil))) (by first | decide | with_unfolding_all rfl) (by decide) (fun _ _ _ _ _ => (gd_name (i := 7) sc__law_small.nd rfl (by first | exact .inl rfl | exact .inr rfl))) (fun _ _ _ _ _ => ptd_nil) (fun _ _ _ _ _ => (ed_call c__law_higher hr (by decide) dvs0 runF_len (ad_cons (ed_var 7) (ad_cons (ed_var 1) ad_nil))))))
  (ssd_cons (sd_ret (ed_cmp vb_eq (op_eqD hr.units) (nomark _) (ed_sset (ad_cons (ed_var 6) ad_nil) B.sorted B.set rfl hr.units) (ed_cb vc_sortedA (cr_sortedA hr.units) B.sorted (ad_cons (ed_var 2) ad_nil))))
  ssd_nil)))))))))
theorem ok_law (B : Bi mg) (F : FunD K "law" "law" (defArgs s_law) (defBody s_law) (defScope s_law) dvs kws f fd) (c__law_by_heights : Kf P w K mg base 9 "_law_by_heights" (spD K 4 F__law_by_heights) []) (c__law_counts_right : Kf P w K mg base 8 "_law_counts_right" (spD K 3 F__law_counts_right) []) (c__law_crossed_right : Kf P w K mg base 7 "_law_crossed_right" (spD K 3 F__law_crossed_right) []) (c__law_elders : Kf P w K mg base 1 "_law_elders" (spD K 1 F__law_elders) []) (c__law_feed : Kf P w K mg base 1 "_law_feed" (spD K 1 F__law_feed) []) (c__law_history : Kf P w K mg base 2 "_law_history" (spM K 1 F__law_history) []) (c__law_led_right : Kf P w K mg base 9 "_law_led_right" (spD K 3 F__law_led_right) []) (c__law_next : Kf P w K mg base 1 "_law_next" (spM K 1 F__law_next) []) (c__law_small : Kf P w K mg base 10 "_law_small" (spD K 1 F__law_small) []) (c_bases_by : Kf P w K mg base 4 "bases_by" (spD K 2 F_bases_by) []) (c_heights_of : Kf P w K mg base 8 "heights_of" (spD K 2 F_heights_of) []) : FnOk P w K mg base CX0 11 f fd ["_law_script"] (spD K 1 F_law) :=
  fnD F sc_law rfl rfl fun cdv A outer s H E hr => (ssd_cons (sd_set 1 sc_law.nd (ed_call c__law_feed hr (by decide) dvs0 runF_len (ad_cons (ed_var 0) ad_nil)))
  (ssd_cons (sd_setF 2 sc_law.nd (ed_ix (ed_lst (ad_cons ed_int (ad_cons ed_int (ad_cons ed_int (ad_cons ed_int (ad_cons ed_int (ad_cons ed_int (ad_cons ed_int (ad_cons ed_int (ad_cons ed_int (ad_cons ed_int (ad_cons ed_int (ad_cons ed_int (ad_cons ed_int (ad_cons ed_int (ad_cons ed_int (ad_cons ed_int ad_nil))))))))))))))))) (ed_callM c__law_next hr (by decide) dvs0 runM_len (ad_cons (ed_var 1) (ad_cons ed_int ad_nil)))))
  (ssd_cons (sd_setF 3 sc_law.nd (ed_callM c__law_history hr (by decide) dvs0 runM_len (ad_cons (ed_var 1) (ad_cons (ed_var 2) ad_nil))))
  (ssd_cons (sd_setF 4 sc_law.nd (ed_call c__law_elders hr (by decide) dvs0 runF_len (ad_cons (ed_var 3) ad_nil)))
  (ssd_cons (sd_setF 5 sc_law.nd (ed_callM c__law_next hr (by decide) dvs0 runM_len (ad_cons (ed_var 1) (ad_cons ed_int ad_nil))))
  (ssd_cons (sd_set 6 sc_law.nd (ed_lst ad_nil))
  (ssd_cons (sd_for rfl PassesOwn.never (id_rng2 ed_int (ed_op vb_add op_add3 (ed_var 2) ed_int) B.range) (gd_name (i := 7) sc_law.nd rfl (by first | exact .inl rfl | exact .inr rfl))
  (ssd_cons (sd_setF 13 sc_law.nd (ed_callM c__law_next hr (by decide) dvs0 runM_len (ad_cons (ed_var 1) (ad_cons (ed_cb vc_len call_len_seq B.len (ad_cons (ed_ix (ed_var 4) (ed_var 7)) ad_nil)) ad_nil))))
  (ssd_cons (sd_if (WD.td (wd_and (td_cmp vb_eq (op_eqD hr.units) (nomark _) (ed_var 5) ed_int) (wd_and1 (td_cmp vb_gt op_gt (nomark _) (ed_callM c__law_next hr (by decide) dvs0 runM_len (ad_cons (ed_var 1) (ad_cons ed_int ad_nil))) ed_int))))
  (ssd_one (sd_setF 13 sc_law.nd ed_int))
  ssd_nil)
  (ssd_cons (sd_expr (ed_app 6 (ed_ix (ed_ix (ed_var 4) (ed_var 7)) (ed_var 13))))
  ssd_nil))))
  (ssd_cons (sd_set 6 sc_law.nd (ed_ct vc_tuple call_tuple_of B.tuple (ad_cons (ed_var 6) ad_nil)))
  (ssd_cons (SD.fz 6 (sd_if (WD.td (wd_or (td_not (td_val (ed_call c__law_led_right hr (by decide) dvs0 runF_len (ad_cons (ed_var 3) (ad_cons (ed_var 4) (ad_cons (ed_var 6) ad_nil)))))) (wd_or1 (td_not (td_val (ed_call c__law_counts_right hr (by decide) dvs0 runF_len (ad_cons (ed_var 3) (ad_cons (ed_var 4) (ad_cons (ed_var 6) ad_nil)))))))))
  (ssd_one (sd_ret ed_bl))
  ssd_nil))
  (ssd_cons (SD.fz 6 (sd_setF 8 sc_law.nd (ed_call c_bases_by hr (by decide) dvs0 runF_len (ad_cons (ed_var 3) (ad_cons (ed_call c_heights_of hr (by decide) dvs0 runF_len (ad_cons (ed_var 3) (ad_cons (ed_var 6) ad_nil))) ad_nil)))))
  (ssd_cons (sd_if (WD.td (wd_or (td_not (td_val (ed_call c__law_counts_right hr (by decide) dvs0 runF_len (ad_cons (ed_var 3) (ad_cons (ed_var 4) (ad_cons (ed_var 8) ad_nil)))))) (wd_or1 (td_not (td_val (ed_call c__law_crossed_right hr (by decide) dvs0 runF_len (ad_cons (ed_var 3) (ad_cons (ed_var 4) (ad_cons (ed_var 8) ad_nil)))))))))
  (ssd_one (sd_ret ed_bl))
  ssd_nil)
  (ssd_cons (sd_setF 9 sc_law.nd (ed_ix (ed_lst (ad_cons ed_int (ad_cons ed_int (ad_cons ed_int (ad_cons ed_int ad_nil))))) (ed_callM c__law_next hr (by decide) dvs0 runM_len (ad_cons (ed_var 1) (ad_cons ed_int ad_nil)))))
  (ssd_cons (sd_setF 10 sc_law.nd (ed_ct vc_tuple call_tuple_of B.tuple (ad_cons (ed_lc (own := [("_law_v", 7)]) rfl sc_law.nd (id_rng1 (ed_var 2) B.range) (by first | decide | with_unfolding_all rfl) (by decide) (fun _ _ _ _ _ => (gd_name (i := 7) sc_law.nd rfl (by first | exact .inl rfl | exact .inr rfl))) (fun _ _ _ _ _ => ptd_nil) (fun _ _ _ _ _ => (ed_op vb_add op_add3 ed_int (ed_callM c__law_next hr (by decide) dvs0 runM_len (ad_cons (ed_var 1) (ad_cons (ed_var 9) ad_nil)))))) ad_nil)))
  (ssd_cons (sd_setF 11 sc_law.nd (ed_ix (ed_lst (ad_cons ed_int (ad_cons ed_int (ad_cons (ed_op vb_pow op_pow ed_int ed_int) (ad_cons ed_int ad_nil))))) (ed_callM c__law_next hr (by decide) dvs0 runM_len (ad_cons (ed_var 1) (ad_cons ed_int ad_nil)))))
  (ssd_cons (sd_if (td_not (td_val (ed_call c__law_by_heights hr (by decide) dvs0 runF_len (ad_cons (ed_var 3) (ad_cons (ed_var 4) (ad_cons (ed_var 10) (ad_cons (ed_var 11) ad_nil)))))))
  (ssd_one (sd_ret ed_bl))
  ssd_nil)
  (ssd_cons (sd_setF 12 sc_law.nd (ed_ix (ed_lst (ad_cons ed_int (ad_cons ed_int (ad_cons ed_int (ad_cons ed_int (ad_cons ed_int (ad_cons ed_int (ad_cons ed_int (ad_cons ed_int (ad_cons ed_int (ad_cons ed_int (ad_cons ed_int (ad_cons ed_int (ad_cons ed_int (ad_cons ed_int (ad_cons ed_int (ad_cons ed_int ad_nil))))))))))))))))) (ed_callM c__law_next hr (by decide) dvs0 runM_len (ad_cons (ed_var 1) (ad_cons ed_int ad_nil)))))
  (ssd_cons (sd_ret (ed_call c__law_small hr (by decide) dvs0 runF_len (ad_cons (ed_callM c__law_history hr (by decide) dvs0 runM_len (ad_cons (ed_var 1) (ad_cons (ed_var 12) ad_nil))) ad_nil)))
  ssd_nil)))))))))))))))))
end
end K58
namespace K58
/-! ### plain: versions and their elders -/
def upF (p : Nat → Nat) : Nat → Nat → List Nat
  | 0, _ => []
  | f + 1, v => if v = 0 then [] else p v :: upF p f (p v)
def up (p : Nat → Nat) (v : Nat) : List Nat := upF p v v
def Par (p : Nat → Nat) : Prop := ∀ v, 1 ≤ v → p v < v
theorem upF_eq {p : Nat → Nat} (hp : Par p) : ∀ (f v : Nat), v ≤ f → upF p f v = upF p v v
  | 0, v, h => by
    have : v = 0 := by omega
    subst this
    rfl
  | f + 1, 0, h => rfl
  | f + 1, v + 1, h => by
    have h1 := hp (v + 1) (by omega)
    show (if v + 1 = 0 then [] else p (v + 1) :: upF p f (p (v + 1))) = (if v + 1 = 0 then [] else p (v + 1) :: upF p v (p (v + 1)))
    rw [if_neg (by omega), if_neg (by omega), upF_eq hp f (p (v + 1)) (by omega), upF_eq hp v (p (v + 1)) (by omega)]
theorem up_zero {p : Nat → Nat} : up p 0 = [] := rfl
theorem up_pos {p : Nat → Nat} (hp : Par p) {v : Nat} (h : 1 ≤ v) : up p v = p v :: up p (p v) := by
  cases v with
  | zero => omega
  | succ v =>
    have h1 := hp (v + 1) (by omega)
    show (if v + 1 = 0 then [] else p (v + 1) :: upF p v (p (v + 1))) = _
    rw [if_neg (by omega), upF_eq hp v (p (v + 1)) (by omega)]
    rfl
section
variable {p : Nat → Nat} (hp : Par p)
include hp
theorem up_lt : ∀ {v u : Nat}, u ∈ up p v → u < v := by
  intro v
  induction v using Nat.strongRecOn with
  | ind v ih =>
    intro u h
    by_cases hv : 1 ≤ v
    · rw [up_pos hp hv] at h
      have h1 := hp v hv
      (rcases List.mem_cons.mp h with e | h)
      · omega
      · have := ih (p v) h1 h
        omega
    · have : v = 0 := by omega
      subst this
      cases h
theorem zero_up {v : Nat} (h : 1 ≤ v) : 0 ∈ up p v := by
  induction v using Nat.strongRecOn with
  | ind v ih =>
    rw [up_pos hp h]
    have h1 := hp v h
    by_cases h2 : p v = 0
    · rw [h2]
      exact List.mem_cons_self
    · exact List.mem_cons_of_mem _ (ih (p v) h1 (by omega))
theorem up_trans : ∀ {v w u : Nat}, w ∈ up p v → u ∈ up p w → u ∈ up p v := by
  intro v
  induction v using Nat.strongRecOn with
  | ind v ih =>
    intro w u h1 h2
    by_cases hv : 1 ≤ v
    · rw [up_pos hp hv] at h1 ⊢
      rcases List.mem_cons.mp h1 with e | h1
      · rw [← e]
        exact List.mem_cons_of_mem _ h2
      · exact List.mem_cons_of_mem _ (ih (p v) (hp v hv) h1 h2)
    · have : v = 0 := by omega
      subst this
      cases h1
/-- of two elders, the smaller is the other's elder -/
theorem up_chain : ∀ {v w u : Nat}, w ∈ up p v → u ∈ up p v → u < w → u ∈ up p w := by
  intro v
  induction v using Nat.strongRecOn with
  | ind v ih =>
    intro w u h1 h2 h3
    by_cases hv : 1 ≤ v
    · rw [up_pos hp hv] at h1 h2
      rcases List.mem_cons.mp h1 with e | h1
      · rcases List.mem_cons.mp h2 with e2 | h2
        · omega
        · rw [e]
          exact h2
      · rcases List.mem_cons.mp h2 with e2 | h2
        · have := up_lt hp h1
          omega
        · exact ih (p v) (hp v hv) h1 h2 h3
    · have : v = 0 := by omega
      subst this
      cases h1
theorem up_sorted : ∀ (v : Nat), (up p v).Pairwise (· > ·) := by
  intro v
  induction v using Nat.strongRecOn with
  | ind v ih =>
    by_cases hv : 1 ≤ v
    · rw [up_pos hp hv]
      refine List.Pairwise.cons (fun u h => up_lt hp h) (ih _ (hp v hv))
    · have : v = 0 := by omega
      subst this
      exact .nil
theorem up_len : ∀ (v : Nat), (up p v).length ≤ v := by
  intro v
  induction v using Nat.strongRecOn with
  | ind v ih =>
    by_cases hv : 1 ≤ v
    · rw [up_pos hp hv, List.length_cons]
      have := ih _ (hp v hv)
      have := hp v hv
      omega
    · have : v = 0 := by omega
      subst this
      exact Nat.le_refl _
/-- the elders above 0, and 0 -/
theorem up_tail : ∀ {v : Nat}, 1 ≤ v → ∃ l, up p v = l ++ [0] ∧ ∀ u ∈ l, 1 ≤ u := by
  intro v
  induction v using Nat.strongRecOn with
  | ind v ih =>
    intro hv
    rw [up_pos hp hv]
    by_cases h2 : p v = 0
    · refine ⟨[], by rw [h2]; rfl, fun u h => by cases h⟩
    · obtain ⟨l, e, h⟩ := ih (p v) (hp v hv) (by omega)
      refine ⟨p v :: l, by rw [e]; rfl, fun u m => ?_⟩
      rcases List.mem_cons.mp m with e | m
      · omega
      · exact h u m
end
/-! ### the nearest higher elder -/
def far (h : Nat → Int) (x : Int) (us : List Nat) : Nat := us.foldr (fun u a => if 0 < u ∧ x < h u then u else a) 0
def nh (p : Nat → Nat) (h : Nat → Int) (v : Nat) : Nat := far h (h v) (up p v)
theorem far_spec {h : Nat → Int} {x : Int} : ∀ {us : List Nat}, us.Pairwise (· > ·) → ((far h x us = 0 ∨ (far h x us ∈ us ∧ x < h (far h x us))) ∧ ∀ u ∈ us, far h x us < u → ¬ x < h u)
  | [], _ => ⟨.inl rfl, fun u m => by cases m⟩
  | a :: us, hs => by
    obtain ⟨h1, h2⟩ := List.pairwise_cons.mp hs
    have ih := far_spec (h := h) (x := x) h2
    show ((if 0 < a ∧ x < h a then a else far h x us) = 0 ∨ _) ∧ _
    by_cases c : 0 < a ∧ x < h a
    · have e : far h x (a :: us) = a := if_pos c
      rw [e]
      refine ⟨.inr ⟨List.mem_cons_self, c.2⟩, fun u m l => ?_⟩
      rcases List.mem_cons.mp m with e | m
      · omega
      · have := h1 u m
        omega
    · have e : far h x (a :: us) = far h x us := if_neg c
      rw [e]
      refine ⟨?_, fun u m l => ?_⟩
      · rcases ih.1 with k | k
        · exact .inl (by rw [if_neg c]; exact k)
        · exact .inr ⟨List.mem_cons_of_mem _ k.1, k.2⟩
      · rcases List.mem_cons.mp m with e | m
        · intro q
          rw [e] at l q
          exact c ⟨by omega, q⟩
        · exact ih.2 u m l
section
variable {p : Nat → Nat} (hp : Par p) (h : Nat → Int)
include hp
theorem nh_mem {v : Nat} (hv : 1 ≤ v) : nh p h v ∈ up p v := by
  rcases (far_spec (h := h) (x := h v) (up_sorted hp v)).1 with k | k
  · have := zero_up hp hv
    unfold nh
    rw [k]
    exact this
  · exact k.1
theorem nh_high {v : Nat} (hv : nh p h v ≠ 0) : h v < h (nh p h v) := by
  rcases (far_spec (h := h) (x := h v) (up_sorted hp v)).1 with k | k
  · exact absurd k hv
  · exact k.2
theorem nh_near {v u : Nat} (hu : u ∈ up p v) (l : nh p h v < u) : h u ≤ h v := by
  have := (far_spec (h := h) (x := h v) (up_sorted hp v)).2 u hu l
  omega
theorem nh_uniq {v w : Nat} (hv : 1 ≤ v) (m : w ∈ up p v) (hi : w ≠ 0 → h v < h w) (lo : ∀ u ∈ up p v, w < u → h u ≤ h v) : w = nh p h v := by
  rcases Nat.lt_trichotomy w (nh p h v) with c | c | c
  · have q := lo _ (nh_mem hp h hv) c
    have := nh_high hp h (v := v) (by omega)
    omega
  · exact c
  · have q := nh_near hp h m c
    have := hi (by omega)
    omega
end
/-! ### crossings -/
/-- bases: each version's base is one of its elders -/
def Bas (p b : Nat → Nat) (n : Nat) : Prop := ∀ z, 1 ≤ z → z ≤ n → b z ∈ up p z
def Free (p b : Nat → Nat) (n : Nat) : Prop := ∀ z, 1 ≤ z → z ≤ n → ∀ v ∈ up p z, b z < v → b z ≤ b v
section
variable {p : Nat → Nat} (hp : Par p)
include hp
theorem nh_free (h : Nat → Int) (n : Nat) : Free p (nh p h) n := by
  intro z h1 h2 v hv l
  by_cases c : nh p h z = 0
  · omega
  · have q1 := nh_high hp h c
    have q2 := nh_near hp h hv l
    have m := up_chain hp hv (nh_mem hp h h1) l
    rcases Nat.lt_or_ge (nh p h v) (nh p h z) with k | k
    · have := nh_near hp h m k
      omega
    · exact k
end
/-- reads: how many steps a version's chain has -/
def rdF (b : Nat → Nat) : Nat → Nat → Nat
  | 0, _ => 0
  | f + 1, v => if v = 0 then 0 else rdF b f (b v) + 1
def rd (b : Nat → Nat) (v : Nat) : Nat := rdF b v v
def Dn (b : Nat → Nat) (n : Nat) : Prop := ∀ v, 1 ≤ v → v ≤ n → b v < v
theorem rdF_eq {b : Nat → Nat} {n : Nat} (hb : Dn b n) : ∀ (f v : Nat), v ≤ f → v ≤ n → rdF b f v = rdF b v v
  | 0, v, h, _ => by
    have : v = 0 := by omega
    subst this
    rfl
  | f + 1, 0, h, _ => rfl
  | f + 1, v + 1, h, hn => by
    have h1 := hb (v + 1) (by omega) hn
    show (if v + 1 = 0 then 0 else rdF b f (b (v + 1)) + 1) = (if v + 1 = 0 then 0 else rdF b v (b (v + 1)) + 1)
    rw [if_neg (by omega), if_neg (by omega), rdF_eq hb f (b (v + 1)) (by omega) (by omega), rdF_eq hb v (b (v + 1)) (by omega) (by omega)]
theorem rd_zero {b : Nat → Nat} : rd b 0 = 0 := rfl
theorem rd_pos {b : Nat → Nat} {n : Nat} (hb : Dn b n) {v : Nat} (h : 1 ≤ v) (hn : v ≤ n) : rd b v = rd b (b v) + 1 := by
  cases v with
  | zero => omega
  | succ v =>
    have h1 := hb (v + 1) (by omega) hn
    show (if v + 1 = 0 then 0 else rdF b v (b (v + 1)) + 1) = _
    rw [if_neg (by omega), rdF_eq hb v (b (v + 1)) (by omega) (by omega)]
    rfl
theorem rd_le {b : Nat → Nat} {n : Nat} (hb : Dn b n) : ∀ {v : Nat}, v ≤ n → rd b v ≤ v := by
  intro v
  induction v using Nat.strongRecOn with
  | ind v ih =>
    intro hn
    by_cases hv : 1 ≤ v
    · have h1 := hb v hv hn
      have := ih _ h1 (by omega)
      rw [rd_pos hb hv hn]
      omega
    · have : v = 0 := by omega
      subst this
      exact Nat.le_refl _
theorem bas_dn {p b : Nat → Nat} {n : Nat} (hp : Par p) (hb : Bas p b n) : Dn b n := fun v h1 h2 => up_lt hp (hb v h1 h2)
section
variable {p b : Nat → Nat} (hp : Par p) {n : Nat} (hb : Bas p b n)
include hp hb
/-- by heights that fall as the reads grow: the nearest higher elder is not below the base -/
theorem nh_ge {h : Nat → Int} (hh : ∀ u v, u ≤ n → v ≤ n → (h v < h u ↔ rd b u < rd b v)) {z : Nat} (h1 : 1 ≤ z) (h2 : z ≤ n) : b z ≤ nh p h z := by
  have m := hb z h1 h2
  have l := up_lt hp m
  rcases Nat.lt_or_ge (nh p h z) (b z) with k | k
  · have q := nh_near hp h m k
    have := (hh (b z) z (by omega) h2).mpr (by rw [rd_pos (bas_dn hp hb) h1 h2]; omega)
    omega
  · exact k
theorem free_rd (hf : Free p b n) {z : Nat} (h1 : 1 ≤ z) (h2 : z ≤ n) : ∀ {v : Nat}, v ∈ up p z → b z < v → rd b z ≤ rd b v := by
  intro v
  induction v using Nat.strongRecOn with
  | ind v ih =>
    intro m l
    have lz := up_lt hp m
    have q := hf z h1 h2 v m l
    have mv := hb v (by omega) (by omega)
    rw [rd_pos (bas_dn hp hb) (v := v) (by omega) (by omega)]
    rcases Nat.eq_or_lt_of_le q with e | q
    · rw [rd_pos (bas_dn hp hb) h1 h2, e]
      exact Nat.le_refl _
    · have := ih (b v) (up_lt hp mv) (up_trans hp m mv) q
      omega
theorem nh_free_eq (hf : Free p b n) {h : Nat → Int} (hh : ∀ u v, u ≤ n → v ≤ n → (h v < h u ↔ rd b u < rd b v)) {z : Nat} (h1 : 1 ≤ z) (h2 : z ≤ n) : nh p h z = b z := by
  symm
  refine nh_uniq hp h h1 (hb z h1 h2) (fun _ => ?_) fun u m l => ?_
  · refine (hh (b z) z ?_ h2).mpr (by rw [rd_pos (bas_dn hp hb) h1 h2]; omega)
    have := up_lt hp (hb z h1 h2)
    omega
  · have lu := up_lt hp m
    have := free_rd hp hb hf h1 h2 m l
    have k := hh u z (by omega) h2
    omega
/-- reads do not grow -/
theorem rd_nh_le {h : Nat → Int} (hh : ∀ u v, u ≤ n → v ≤ n → (h v < h u ↔ rd b u < rd b v)) : ∀ {z : Nat}, z ≤ n → rd (nh p h) z ≤ rd b z := by
  intro z
  induction z using Nat.strongRecOn with
  | ind z ih =>
    intro h2
    by_cases h1 : 1 ≤ z
    · have m := nh_mem hp h h1
      have l := up_lt hp m
      have dn : Dn (nh p h) n := fun v a1 _ => up_lt hp (nh_mem hp h a1)
      rw [rd_pos dn h1 h2]
      have q := ih _ l (by omega)
      by_cases c : nh p h z = 0
      · rw [c, rd_zero]
        rw [rd_pos (bas_dn hp hb) h1 h2]
        omega
      · have := (hh (nh p h z) z (by omega) h2).mp (nh_high hp h c)
        omega
    · have : z = 0 := by omega
      subst this
      exact Nat.le_refl _
end
/-- the same order, the same plan -/
theorem nh_congr {p : Nat → Nat} {h g : Nat → Int} {z : Nat} (hh : ∀ u ∈ up p z, 0 < u → (h z < h u ↔ g z < g u)) : nh p h z = nh p g z := by
  unfold nh far
  generalize up p z = us at hh
  induction us with
  | nil => rfl
  | cons a us ih =>
    rw [List.foldr_cons, List.foldr_cons, ih fun u m => hh u (List.mem_cons_of_mem _ m)]
    by_cases c : 0 < a
    · by_cases k : h z < h a
      · rw [if_pos ⟨c, k⟩, if_pos ⟨c, (hh a List.mem_cons_self c).mp k⟩]
      · rw [if_neg fun q => k q.2, if_neg fun q => k ((hh a List.mem_cons_self c).mpr q.2)]
    · rw [if_neg fun q => c q.1, if_neg fun q => c q.1]
end K58
namespace K58
open PySem PySem.Spec PyProof.Rows L2 DL
/-! ### what the defs give -/
abbrev im (d : PyData) : Option Sl := some (.im d)
abbrev ac (ds : List PyData) : Option Sl := some (.ac ds)
abbrev tN (l : List Nat) : PyData := .tuple (l.map nD)
abbrev lN (l : List Nat) : PyData := .list (l.map nD)
abbrev tZ (l : List Int) : PyData := .tuple (l.map PyData.int)
def fp (P : List Nat) (v : Nat) : Nat := P.getD (v - 1) 0
def fz (h : List Int) (v : Nat) : Int := h.getD (v - 1) 0
theorem v_is_integer (i : Int) : F_is_integer [.int i] = some (.im (.bool true)) := by
  simp [F_is_integer, g_is_integer, r_x_var, r_x_c, r_two, r_x_bin, r_t_of, r_t_not, r_t_and, r_t_or, r_x_and, r_x_or, r_x_not, r_x_if, r_x_chain, r_a_nil, r_a_cons, r_argsD, r_argsI, r_x_tup, r_x_lst, r_x_isi, r_x_cb, r_s_seq, r_s_nx, r_s_bk, r_s_ct, r_s_drop, r_s_ret, r_s_if, r_s_set, r_s_setF, r_x_call, r_t_yes, r_s_retN, r_i_seq, x_ix, runF, env0, finR, s_no, putA, okS, isAc, look2, lookR, frzR, lookAll, imAll, imR, isD, e_add, e_sub, e_lt, e_le, e_gt, e_ge, e_eq, e_ne, e_isnone, e_isT, e_isnotnone, e_isnotT, e_isB, e_isnotB, e_neB, e_eqB, c_len, c_tuple, c_list, c_int]
theorem v_is_number (i : Int) : F_is_number [.int i] = some (.im (.bool (decide (0 ≤ i)))) := by
  simp [F_is_number, g_is_number, v_is_integer, r_x_var, r_x_c, r_two, r_x_bin, r_t_of, r_t_not, r_t_and, r_t_or, r_x_and, r_x_or, r_x_not, r_x_if, r_x_chain, r_a_nil, r_a_cons, r_argsD, r_argsI, r_x_tup, r_x_lst, r_x_isi, r_x_cb, r_s_seq, r_s_nx, r_s_bk, r_s_ct, r_s_drop, r_s_ret, r_s_if, r_s_set, r_s_setF, r_x_call, r_t_yes, r_s_retN, r_i_seq, x_ix, runF, env0, finR, s_no, putA, okS, isAc, look2, lookR, frzR, lookAll, imAll, imR, isD, e_add, e_sub, e_lt, e_le, e_gt, e_ge, e_eq, e_ne, e_isnone, e_isT, e_isnotnone, e_isnotT, e_isB, e_isnotB, e_neB, e_eqB, c_len, c_tuple, c_list, c_int]
theorem v_is_natural (i : Int) : F_is_natural [.int i] = some (.im (.bool (decide (1 ≤ i)))) := by
  simp [F_is_natural, g_is_natural, v_is_integer, r_x_var, r_x_c, r_two, r_x_bin, r_t_of, r_t_not, r_t_and, r_t_or, r_x_and, r_x_or, r_x_not, r_x_if, r_x_chain, r_a_nil, r_a_cons, r_argsD, r_argsI, r_x_tup, r_x_lst, r_x_isi, r_x_cb, r_s_seq, r_s_nx, r_s_bk, r_s_ct, r_s_drop, r_s_ret, r_s_if, r_s_set, r_s_setF, r_x_call, r_t_yes, r_s_retN, r_i_seq, x_ix, runF, env0, finR, s_no, putA, okS, isAc, look2, lookR, frzR, lookAll, imAll, imR, isD, e_add, e_sub, e_lt, e_le, e_gt, e_ge, e_eq, e_ne, e_isnone, e_isT, e_isnotnone, e_isnotT, e_isB, e_isnotB, e_neB, e_eqB, c_len, c_tuple, c_list, c_int]
theorem v_many (ds : List PyData) : F_many_of [.tuple ds] = some (.im (.int ds.length)) := by
  simp [F_many_of, g_many_of, r_x_var, r_x_c, r_two, r_x_bin, r_t_of, r_t_not, r_t_and, r_t_or, r_x_and, r_x_or, r_x_not, r_x_if, r_x_chain, r_a_nil, r_a_cons, r_argsD, r_argsI, r_x_tup, r_x_lst, r_x_isi, r_x_cb, r_s_seq, r_s_nx, r_s_bk, r_s_ct, r_s_drop, r_s_ret, r_s_if, r_s_set, r_s_setF, r_x_call, r_t_yes, r_s_retN, r_i_seq, x_ix, runF, env0, finR, s_no, putA, okS, isAc, look2, lookR, frzR, lookAll, imAll, imR, isD, e_add, e_sub, e_lt, e_le, e_gt, e_ge, e_eq, e_ne, e_isnone, e_isT, e_isnotnone, e_isnotT, e_isB, e_isnotB, e_neB, e_eqB, c_len, c_tuple, c_list, c_int]
theorem v_check (ds : List PyData) (x : Str) (v : Nat) (h : v ≤ ds.length) : F_check_version [.tuple ds, .str x, .int (v : Int), .int 0] = some (.im .none) := by
  simp [F_check_version, g_check_version, v_is_number, r_x_var, r_x_c, r_two, r_x_bin, r_t_of, r_t_not, r_t_and, r_t_or, r_x_and, r_x_or, r_x_not, r_x_if, r_x_chain, r_a_nil, r_a_cons, r_argsD, r_argsI, r_x_tup, r_x_lst, r_x_isi, r_x_cb, r_s_seq, r_s_nx, r_s_bk, r_s_ct, r_s_drop, r_s_ret, r_s_if, r_s_set, r_s_setF, r_x_call, r_t_yes, r_s_retN, r_i_seq, x_ix, runF, env0, finR, s_no, putA, okS, isAc, look2, lookR, frzR, lookAll, imAll, imR, isD, e_add, e_sub, e_lt, e_le, e_gt, e_ge, e_eq, e_ne, e_isnone, e_isT, e_isnotnone, e_isnotT, e_isB, e_isnotB, e_neB, e_eqB, c_len, c_tuple, c_list, c_int, h]
theorem fp_get {P : List Nat} {v : Nat} (h1 : 1 ≤ v) (h2 : v ≤ P.length) : P[v - 1]? = some (fp P v) := by
  unfold fp
  rw [List.getD_eq_getElem?_getD, List.getElem?_eq_getElem (by omega)]
  rfl
theorem fz_get {P : List Int} {v : Nat} (h1 : 1 ≤ v) (h2 : v ≤ P.length) : P[v - 1]? = some (fz P v) := by
  unfold fz
  rw [List.getD_eq_getElem?_getD, List.getElem?_eq_getElem (by omega)]
  rfl
theorem pred_cast {v : Nat} (h : 1 ≤ v) : ((v : Int) - 1) = ((v - 1 : Nat) : Int) := by omega
theorem ix1 {P : List Nat} {v : Nat} (h1 : 1 ≤ v) (h2 : v ≤ P.length) : p_ix (tN P) (.int ((v : Int) - 1)) = some (.im (.int (fp P v : Int))) := by
  rw [pred_cast h1]
  refine e_ixT ?_
  rw [List.getElem?_map, fp_get h1 h2]
  rfl
theorem ix1Z {P : List Int} {v : Nat} (h1 : 1 ≤ v) (h2 : v ≤ P.length) : p_ix (tZ P) (.int ((v : Int) - 1)) = some (.im (.int (fz P v))) := by
  rw [pred_cast h1]
  refine e_ixT ?_
  rw [List.getElem?_map, fz_get h1 h2]
  rfl
section
variable {P : List Nat} (hp : Par (fp P)) (hn : P.length ≤ 1000)
include hp hn
theorem up_loop : ∀ (v n : Nat) (acc : List PyData), v < n → v ≤ P.length → acc.length + v ≤ 10000 →
    whGo (t_of (x_bin p_gt (x_var 1) (x_c (.int 0)))) (s_seq (s_setF 1 (x_ix (x_var 0) (x_bin p_sub (x_var 1) (x_c (.int 1))))) (s_seq (s_drop (x_app 2 (x_var 1))) s_nx)) n [some (.im (tN P)), some (.im (.int (v : Int))), some (.ac acc)]
      = some (.nx [some (.im (tN P)), some (.im (.int 0)), some (.ac (acc ++ (up (fp P) v).map nD))]) := by
  intro v
  induction v using Nat.strongRecOn with
  | ind v ih =>
    intro n acc hv hl ha
    cases n with
    | zero => omega
    | succ n =>
      by_cases h0 : v = 0
      · subst h0
        simp [whGo, r_x_var, r_x_c, r_two, r_x_bin, r_t_of, r_t_not, r_t_and, r_t_or, r_x_and, r_x_or, r_x_not, r_x_if, r_x_chain, r_a_nil, r_a_cons, r_argsD, r_argsI, r_x_tup, r_x_lst, r_x_isi, r_x_cb, r_s_seq, r_s_nx, r_s_bk, r_s_ct, r_s_drop, r_s_ret, r_s_if, r_s_set, r_s_setF, r_x_call, r_t_yes, r_s_retN, r_i_seq, x_ix, runF, env0, finR, s_no, putA, okS, isAc, look2, lookR, frzR, lookAll, imAll, imR, isD, e_add, e_sub, e_lt, e_le, e_gt, e_ge, e_eq, e_ne, e_isnone, e_isT, e_isnotnone, e_isnotT, e_isB, e_isnotB, e_neB, e_eqB, c_len, c_tuple, c_list, c_int, up_zero]
      · have h1 : 1 ≤ v := by omega
        have h2 := hp v h1
        have q := ih (fp P v) h2 n (acc ++ [nD (fp P v)]) (by omega) (by omega) (by simp only [List.length_append, List.length_cons, List.length_nil]; omega)
        have c : 0 < v := by omega
        have k : okLen (acc.length + 1) = true := okLen_yes (by omega)
        simp only [nD] at q
        simp [whGo, r_x_var, r_x_c, r_two, r_x_bin, r_t_of, r_t_not, r_t_and, r_t_or, r_x_and, r_x_or, r_x_not, r_x_if, r_x_chain, r_a_nil, r_a_cons, r_argsD, r_argsI, r_x_tup, r_x_lst, r_x_isi, r_x_cb, r_s_seq, r_s_nx, r_s_bk, r_s_ct, r_s_drop, r_s_ret, r_s_if, r_s_set, r_s_setF, r_x_call, r_t_yes, r_s_retN, r_i_seq, x_ix, runF, env0, finR, s_no, putA, okS, isAc, look2, lookR, frzR, lookAll, imAll, imR, isD, e_add, e_sub, e_lt, e_le, e_gt, e_ge, e_eq, e_ne, e_isnone, e_isT, e_isnotnone, e_isnotT, e_isB, e_isnotB, e_neB, e_eqB, c_len, c_tuple, c_list, c_int, r_x_app, ix1 h1 hl, c, k, q, up_pos hp h1, nD]
theorem v_upward {v : Nat} (hv : v ≤ P.length) : F__upward [tN P, .int (v : Int)] = some (.ac ((up (fp P) v).map nD)) := by
  have q := up_loop hp hn v (v + 1) [] (by omega) hv (by simp; omega)
  simp [F__upward, g__upward, r_x_var, r_x_c, r_two, r_x_bin, r_t_of, r_t_not, r_t_and, r_t_or, r_x_and, r_x_or, r_x_not, r_x_if, r_x_chain, r_a_nil, r_a_cons, r_argsD, r_argsI, r_x_tup, r_x_lst, r_x_isi, r_x_cb, r_s_seq, r_s_nx, r_s_bk, r_s_ct, r_s_drop, r_s_ret, r_s_if, r_s_set, r_s_setF, r_x_call, r_t_yes, r_s_retN, r_i_seq, x_ix, runF, env0, finR, s_no, putA, okS, isAc, look2, lookR, frzR, lookAll, imAll, imR, isD, e_add, e_sub, e_lt, e_le, e_gt, e_ge, e_eq, e_ne, e_isnone, e_isT, e_isnotnone, e_isnotT, e_isB, e_isnotB, e_neB, e_eqB, c_len, c_tuple, c_list, c_int, r_s_while, fuI, okLen] at q ⊢
  simp [q]
/-- the way from the root, without 0 -/
def way (p : Nat → Nat) (z : Nat) : List Nat := (z :: up p z).reverse.filter fun u => decide (0 < u)
theorem v_path {z : Nat} (hz : z ≤ P.length) : F_path_of [tN P, .int (z : Int)] = some (.im (tN (way (fp P) z))) := by
  have q : x_lc (i_rev (x_var 2)) (g_name 3) (t_of (x_bin p_gt (x_var 3) (x_c (.int 0)))) (x_var 3) [3] [some (.im (tN P)), some (.im (.int (z : Int))), some (.im (lN (z :: up (fp P) z))), none]
      = some (.ac ((way (fp P) z).map nD), [some (.im (tN P)), some (.im (.int (z : Int))), some (.im (lN (z :: up (fp P) z))), none]) := by
    have hl : ((z :: up (fp P) z).map nD).reverse.length ≤ 16777216 := by
      have := up_len hp z
      simp only [List.length_reverse, List.length_map, List.length_cons]
      omega
    rw [x_lc_map (e1 := [some (.im (tN P)), some (.im (.int (z : Int))), some (.im (lN (z :: up (fp P) z))), none]) (ds := ((z :: up (fp P) z).map nD).reverse) (fun d => match d with
      | .int i => decide (0 < i)
      | _ => false) id (by simp [r_i_rev, r_x_var, r_x_c, r_two, r_x_bin, r_t_of, r_t_not, r_t_and, r_t_or, r_x_and, r_x_or, r_x_not, r_x_if, r_x_chain, r_a_nil, r_a_cons, r_argsD, r_argsI, r_x_tup, r_x_lst, r_x_isi, r_x_cb, r_s_seq, r_s_nx, r_s_bk, r_s_ct, r_s_drop, r_s_ret, r_s_if, r_s_set, r_s_setF, r_x_call, r_t_yes, r_s_retN, r_i_seq, x_ix, runF, env0, finR, s_no, putA, okS, isAc, look2, lookR, frzR, lookAll, imAll, imR, isD, e_add, e_sub, e_lt, e_le, e_gt, e_ge, e_eq, e_ne, e_isnone, e_isT, e_isnotnone, e_isnotT, e_isB, e_isnotB, e_neB, e_eqB, c_len, c_tuple, c_list, c_int]) (by simp [noAc, isAc]) hl fun d m => ?_]
    · rw [List.map_id, ← List.map_reverse, List.filter_map]
      unfold way
      congr 4
      refine List.filter_congr fun u _ => ?_
      simp [nD]
    · obtain ⟨u, _, rfl⟩ := List.mem_map.mp (List.mem_reverse.mp m)
      refine ⟨[some (.im (tN P)), some (.im (.int (z : Int))), some (.im (lN (z :: up (fp P) z))), some (.im (nD u))], [some (.im (tN P)), some (.im (.int (z : Int))), some (.im (lN (z :: up (fp P) z))), some (.im (nD u))], rfl, by simp [r_x_var, r_x_c, r_two, r_x_bin, r_t_of, r_t_not, r_t_and, r_t_or, r_x_and, r_x_or, r_x_not, r_x_if, r_x_chain, r_a_nil, r_a_cons, r_argsD, r_argsI, r_x_tup, r_x_lst, r_x_isi, r_x_cb, r_s_seq, r_s_nx, r_s_bk, r_s_ct, r_s_drop, r_s_ret, r_s_if, r_s_set, r_s_setF, r_x_call, r_t_yes, r_s_retN, r_i_seq, x_ix, runF, env0, finR, s_no, putA, okS, isAc, look2, lookR, frzR, lookAll, imAll, imR, isD, e_add, e_sub, e_lt, e_le, e_gt, e_ge, e_eq, e_ne, e_isnone, e_isT, e_isnotnone, e_isnotT, e_isB, e_isnotB, e_neB, e_eqB, c_len, c_tuple, c_list, c_int, nD], fun _ => rfl, fun _ => ⟨.im (nD u), [some (.im (tN P)), some (.im (.int (z : Int))), some (.im (lN (z :: up (fp P) z))), some (.im (nD u))], rfl, rfl, rfl⟩⟩
  refine runs rfl (sq (e1 := [some (.im (tN P)), some (.im (.int (z : Int))), none, none]) (drop (r := .im .none) (by simp [r_x_var, r_x_c, r_two, r_x_bin, r_t_of, r_t_not, r_t_and, r_t_or, r_x_and, r_x_or, r_x_not, r_x_if, r_x_chain, r_a_nil, r_a_cons, r_argsD, r_argsI, r_x_tup, r_x_lst, r_x_isi, r_x_cb, r_s_seq, r_s_nx, r_s_bk, r_s_ct, r_s_drop, r_s_ret, r_s_if, r_s_set, r_s_setF, r_x_call, r_t_yes, r_s_retN, r_i_seq, x_ix, runF, env0, finR, s_no, putA, okS, isAc, look2, lookR, frzR, lookAll, imAll, imR, isD, e_add, e_sub, e_lt, e_le, e_gt, e_ge, e_eq, e_ne, e_isnone, e_isT, e_isnotnone, e_isnotT, e_isB, e_isnotB, e_neB, e_eqB, c_len, c_tuple, c_list, c_int, v_check, hz])) (sq (e1 := [some (.im (tN P)), some (.im (.int (z : Int))), some (.im (lN (z :: up (fp P) z))), none]) ?_ (sr (ret (cbT q))))) rfl
  have c : ((lN (z :: up (fp P) z)) : PyData) = .list ([.int (z : Int)] ++ (up (fp P) z).map nD) := rfl
  rw [c]
  have := up_len hp z
  have k : p_add (.list [.int (z : Int)]) (.list ((up (fp P) z).map nD)) = some (.ac ([.int (z : Int)] ++ (up (fp P) z).map nD)) := e_cat (by simp only [List.length_cons, List.length_nil, List.length_map]; omega)
  simp [r_x_var, r_x_c, r_two, r_x_bin, r_t_of, r_t_not, r_t_and, r_t_or, r_x_and, r_x_or, r_x_not, r_x_if, r_x_chain, r_a_nil, r_a_cons, r_argsD, r_argsI, r_x_tup, r_x_lst, r_x_isi, r_x_cb, r_s_seq, r_s_nx, r_s_bk, r_s_ct, r_s_drop, r_s_ret, r_s_if, r_s_set, r_s_setF, r_x_call, r_t_yes, r_s_retN, r_i_seq, x_ix, runF, env0, finR, s_no, putA, okS, isAc, look2, lookR, frzR, lookAll, imAll, imR, isD, e_add, e_sub, e_lt, e_le, e_gt, e_ge, e_eq, e_ne, e_isnone, e_isT, e_isnotnone, e_isnotT, e_isB, e_isnotB, e_neB, e_eqB, c_len, c_tuple, c_list, c_int, v_upward hp hn hz, okLen] at k ⊢
  simp [k]
theorem v_elder {u z : Nat} (hu : u ≤ P.length) (hz : z ≤ P.length) : F_is_elder [tN P, .int (u : Int), .int (z : Int)] = some (.im (.bool (decide (u ∈ up (fp P) z)))) := by
  refine runs rfl (sq (e1 := [some (.im (tN P)), some (.im (.int (u : Int))), some (.im (.int (z : Int)))]) (drop (r := .im .none) (by simp [r_x_var, r_x_c, r_two, r_x_bin, r_t_of, r_t_not, r_t_and, r_t_or, r_x_and, r_x_or, r_x_not, r_x_if, r_x_chain, r_a_nil, r_a_cons, r_argsD, r_argsI, r_x_tup, r_x_lst, r_x_isi, r_x_cb, r_s_seq, r_s_nx, r_s_bk, r_s_ct, r_s_drop, r_s_ret, r_s_if, r_s_set, r_s_setF, r_x_call, r_t_yes, r_s_retN, r_i_seq, x_ix, runF, env0, finR, s_no, putA, okS, isAc, look2, lookR, frzR, lookAll, imAll, imR, isD, e_add, e_sub, e_lt, e_le, e_gt, e_ge, e_eq, e_ne, e_isnone, e_isT, e_isnotnone, e_isnotT, e_isB, e_isnotB, e_neB, e_eqB, c_len, c_tuple, c_list, c_int, v_check, hu])) (sq (e1 := [some (.im (tN P)), some (.im (.int (u : Int))), some (.im (.int (z : Int)))]) (drop (r := .im .none) (by simp [r_x_var, r_x_c, r_two, r_x_bin, r_t_of, r_t_not, r_t_and, r_t_or, r_x_and, r_x_or, r_x_not, r_x_if, r_x_chain, r_a_nil, r_a_cons, r_argsD, r_argsI, r_x_tup, r_x_lst, r_x_isi, r_x_cb, r_s_seq, r_s_nx, r_s_bk, r_s_ct, r_s_drop, r_s_ret, r_s_if, r_s_set, r_s_setF, r_x_call, r_t_yes, r_s_retN, r_i_seq, x_ix, runF, env0, finR, s_no, putA, okS, isAc, look2, lookR, frzR, lookAll, imAll, imR, isD, e_add, e_sub, e_lt, e_le, e_gt, e_ge, e_eq, e_ne, e_isnone, e_isT, e_isnotnone, e_isnotT, e_isB, e_isnotB, e_neB, e_eqB, c_len, c_tuple, c_list, c_int, v_check, hz])) (sr (ret (r := .im (.bool (decide (u ∈ up (fp P) z)))) (e1 := [some (.im (tN P)), some (.im (.int (u : Int))), some (.im (.int (z : Int)))]) ?_)))) rfl
  have k := e_inN u (up (fp P) z)
  simp [r_x_var, r_x_c, r_two, r_x_bin, r_t_of, r_t_not, r_t_and, r_t_or, r_x_and, r_x_or, r_x_not, r_x_if, r_x_chain, r_a_nil, r_a_cons, r_argsD, r_argsI, r_x_tup, r_x_lst, r_x_isi, r_x_cb, r_s_seq, r_s_nx, r_s_bk, r_s_ct, r_s_drop, r_s_ret, r_s_if, r_s_set, r_s_setF, r_x_call, r_t_yes, r_s_retN, r_i_seq, x_ix, runF, env0, finR, s_no, putA, okS, isAc, look2, lookR, frzR, lookAll, imAll, imR, isD, e_add, e_sub, e_lt, e_le, e_gt, e_ge, e_eq, e_ne, e_isnone, e_isT, e_isnotnone, e_isnotT, e_isB, e_isnotB, e_neB, e_eqB, c_len, c_tuple, c_list, c_int, v_upward hp hn hz, k]
end
theorem way_mem {p : Nat → Nat} (hp : Par p) {z v : Nat} (h : v ∈ way p z) : 0 < v ∧ (v = z ∨ v ∈ up p z) := by
  unfold way at h
  rw [List.mem_filter, List.mem_reverse, List.mem_cons] at h
  exact ⟨of_decide_eq_true h.2, h.1⟩
theorem ix2 {P : List Nat} {k : Nat} (h : k < P.length) : p_ix (tN P) (.int (k : Int)) = some (.im (.int (fp P (k + 1) : Int))) := by
  have q := ix1 (P := P) (v := k + 1) (by omega) (by omega)
  rw [show (((k + 1 : Nat) : Int) - 1) = (k : Int) by omega] at q
  exact q
section
variable {P bs : List Nat} (hp : Par (fp P)) (hn : P.length ≤ 1000) (hl : bs.length = P.length) (hb : Bas (fp P) (fp bs) P.length)
include hp hn hl hb
theorem v_is_bases : F_is_bases [tN P, tN bs] = some (.im (.bool true)) := by
  obtain ⟨e3, h1, a, b, h2⟩ := forGo_inv (γ := g_tup [2, 3]) (S := [2, 3]) (fb := s_if (t_not (t_and (t_of (x_call F_is_number [] (a_cons (x_var 3) a_nil))) (t_and (t_of (x_bin p_le (x_var 3) (x_var 2))) (t_of (x_call F_is_elder [] (a_cons (x_var 0) (a_cons (x_var 3) (a_cons (x_bin p_add (x_var 2) (x_c (.int 1))) a_nil))))))))
    (s_ret (x_c (.bool false))) s_nx) (fun k => PyData.tuple [nD k, nD (fp bs (k + 1))]) (List.range P.length) (fun _ e => ∃ a b, e = [some (.im (tN P)), some (.im (tN bs)), a, b]) [some (.im (tN P)), some (.im (tN bs)), none, none] ⟨none, none, rfl⟩ fun pre k post hk e he => by
      obtain ⟨a, b, rfl⟩ := he
      have lk : k < P.length := List.mem_range.mp (by rw [hk]; simp)
      have m := hb (k + 1) (by omega) (by omega)
      have l := up_lt hp m
      have q := v_elder hp hn (u := fp bs (k + 1)) (z := k + 1) (by omega) (by omega)
      refine ⟨rfl, [some (.im (tN P)), some (.im (tN bs)), some (.im (nD k)), some (.im (nD (fp bs (k + 1))))], _, rfl, .inl (ifF (e1 := [some (.im (tN P)), some (.im (tN bs)), some (.im (nD k)), some (.im (nD (fp bs (k + 1))))]) ?_ rfl), ⟨_, _, rfl⟩⟩
      have c : fp bs (k + 1) ≤ k := by omega
      simp only [decide_eq_true m] at q
      have q2 : F_is_elder [tN P, .int (fp bs (k + 1) : Int), .int ((k : Int) + 1)] = some (.im (.bool true)) := q
      simp [r_x_var, r_x_c, r_two, r_x_bin, r_t_of, r_t_not, r_t_and, r_t_or, r_x_and, r_x_or, r_x_not, r_x_if, r_x_chain, r_a_nil, r_a_cons, r_argsD, r_argsI, r_x_tup, r_x_lst, r_x_isi, r_x_cb, r_s_seq, r_s_nx, r_s_bk, r_s_ct, r_s_drop, r_s_ret, r_s_if, r_s_set, r_s_setF, r_x_call, r_t_yes, r_s_retN, r_i_seq, x_ix, runF, env0, finR, s_no, putA, okS, isAc, look2, lookR, frzR, lookAll, imAll, imR, isD, e_add, e_sub, e_lt, e_le, e_gt, e_ge, e_eq, e_ne, e_isnone, e_isT, e_isnotnone, e_isnotT, e_isB, e_isnotB, e_neB, e_eqB, c_len, c_tuple, c_list, c_int, nD, v_is_number, c, q2]
  subst h2
  have e : (List.range P.length).map (fun k => PyData.tuple [nD k, nD (fp bs (k + 1))]) = enumD (bs.map nD) := by
    refine List.ext_getElem? fun i => ?_
    unfold enumD
    rw [List.getElem?_map, List.getElem?_zipWith, List.length_map, hl, List.getElem?_map]
    by_cases hi : i < P.length
    · have g := fp_get (P := bs) (v := i + 1) (by omega) (by omega)
      rw [Nat.add_sub_cancel] at g
      rw [List.getElem?_range hi, g]
      rfl
    · rw [List.getElem?_eq_none (by rw [List.length_range]; omega)]
      rfl
  rw [e] at h1
  refine runs rfl (sq (e1 := [some (.im (tN P)), some (.im (tN bs)), none, none]) (ifF (e1 := [some (.im (tN P)), some (.im (tN bs)), none, none]) ?_ rfl) (sq (sf (e1 := [some (.im (tN P)), some (.im (tN bs)), none, none]) (ds := enumD (bs.map nD)) (by simp [r_i_enum, r_x_var, r_x_c, r_two, r_x_bin, r_t_of, r_t_not, r_t_and, r_t_or, r_x_and, r_x_or, r_x_not, r_x_if, r_x_chain, r_a_nil, r_a_cons, r_argsD, r_argsI, r_x_tup, r_x_lst, r_x_isi, r_x_cb, r_s_seq, r_s_nx, r_s_bk, r_s_ct, r_s_drop, r_s_ret, r_s_if, r_s_set, r_s_setF, r_x_call, r_t_yes, r_s_retN, r_i_seq, x_ix, runF, env0, finR, s_no, putA, okS, isAc, look2, lookR, frzR, lookAll, imAll, imR, isD, e_add, e_sub, e_lt, e_le, e_gt, e_ge, e_eq, e_ne, e_isnone, e_isT, e_isnotnone, e_isnotT, e_isB, e_isnotB, e_neB, e_eqB, c_len, c_tuple, c_list, c_int]) h1) (sr (ret (r := .im (.bool true)) rfl)))) rfl
  simp [r_x_var, r_x_c, r_two, r_x_bin, r_t_of, r_t_not, r_t_and, r_t_or, r_x_and, r_x_or, r_x_not, r_x_if, r_x_chain, r_a_nil, r_a_cons, r_argsD, r_argsI, r_x_tup, r_x_lst, r_x_isi, r_x_cb, r_s_seq, r_s_nx, r_s_bk, r_s_ct, r_s_drop, r_s_ret, r_s_if, r_s_set, r_s_setF, r_x_call, r_t_yes, r_s_retN, r_i_seq, x_ix, runF, env0, finR, s_no, putA, okS, isAc, look2, lookR, frzR, lookAll, imAll, imR, isD, e_add, e_sub, e_lt, e_le, e_gt, e_ge, e_eq, e_ne, e_isnone, e_isT, e_isnotnone, e_isnotT, e_isB, e_isnotB, e_neB, e_eqB, c_len, c_tuple, c_list, c_int, v_many, hl]
/-- the crossing that is met first -/
def crsA (p b : Nat → Nat) (n : Nat) : Option Rs := (List.range n).findSome? fun k => (way p (k + 1)).findSome? fun v => if b (k + 1) < v ∧ b v < b (k + 1) then some (.im (.tuple [nD v, nD (k + 1)])) else none
def orN : Option Rs → Rs
  | some r => r
  | none => .im .none
theorem v_first : F_first_crossing [tN P, tN bs] = some (orN (crsA (fp P) (fp bs) P.length)) := by
  have hr : ∀ e3 a b c, e3 = [im (tN P), im (tN bs), a, b, c] → i_rng2 (x_c (.int 1)) (x_bin p_add (x_call F_many_of [] (a_cons (x_var 0) a_nil)) (x_c (.int 1))) e3 = some ((List.range P.length).map fun k => nD (k + 1), e3) := fun e3 a b c he => by
    subst he
    exact i_rng2_at (e1 := [im (tN P), im (tN bs), a, b, c]) rfl (by simp [r_x_var, r_x_c, r_two, r_x_bin, r_t_of, r_t_not, r_t_and, r_t_or, r_x_and, r_x_or, r_x_not, r_x_if, r_x_chain, r_a_nil, r_a_cons, r_argsD, r_argsI, r_x_tup, r_x_lst, r_x_isi, r_x_cb, r_s_seq, r_s_nx, r_s_bk, r_s_ct, r_s_drop, r_s_ret, r_s_if, r_s_set, r_s_setF, r_x_call, r_t_yes, r_s_retN, r_i_seq, x_ix, runF, env0, finR, s_no, putA, okS, isAc, look2, lookR, frzR, lookAll, imAll, imR, isD, e_add, e_sub, e_lt, e_le, e_gt, e_ge, e_eq, e_ne, e_isnone, e_isT, e_isnotnone, e_isnotT, e_isB, e_isnotB, e_neB, e_eqB, c_len, c_tuple, c_list, c_int, v_many]) (by omega)
  have main := forGo_some (γ := g_name 2) (S := [2]) (fb := s_seq (s_setF 3 (x_ix (x_var 1) (x_bin p_sub (x_var 2) (x_c (.int 1))))) (s_seq (s_for (i_seq (x_call F_path_of [] (a_cons (x_var 0) (a_cons (x_var 2) a_nil)))) (g_name 4) [4]
      (s_if (t_and (t_of (x_bin p_lt (x_var 3) (x_var 4))) (t_of (x_bin p_lt (x_ix (x_var 1) (x_bin p_sub (x_var 4) (x_c (.int 1)))) (x_var 3)))) (s_ret (x_tup (a_cons (x_var 4) (a_cons (x_var 2) a_nil)))) s_nx)) s_nx))
    (fun e => ∃ a b c, e = [im (tN P), im (tN bs), a, b, c]) (fun k => nD (k + 1)) (fun k => (way (fp P) (k + 1)).findSome? fun v => if fp bs (k + 1) < v ∧ fp bs v < fp bs (k + 1) then some (.im (.tuple [nD v, nD (k + 1)])) else none)
    (List.range P.length) [im (tN P), im (tN bs), none, none, none] ⟨none, none, none, rfl⟩ fun k hk e he => by
      obtain ⟨a, b, c, rfl⟩ := he
      have lk := List.mem_range.mp hk
      refine ⟨rfl, [im (tN P), im (tN bs), im (nD (k + 1)), b, c], rfl, ?_⟩
      have h3 : s_setF 3 (x_ix (x_var 1) (x_bin p_sub (x_var 2) (x_c (.int 1)))) [im (tN P), im (tN bs), im (nD (k + 1)), b, c] = some (.nx [im (tN P), im (tN bs), im (nD (k + 1)), im (nD (fp bs (k + 1))), c]) := by
        have q := ix2 (P := bs) (k := k) (by omega)
        refine setF (d := nD (fp bs (k + 1))) (r := .im (nD (fp bs (k + 1)))) (e1 := [im (tN P), im (tN bs), im (nD (k + 1)), b, c]) ?_ rfl rfl
        simp only [r_x_var, r_x_c, r_two, r_x_bin, r_t_of, r_t_not, r_t_and, r_t_or, r_x_and, r_x_or, r_x_not, r_x_if, r_x_chain, r_a_nil, r_a_cons, r_argsD, r_argsI, r_x_tup, r_x_lst, r_x_isi, r_x_cb, r_s_seq, r_s_nx, r_s_bk, r_s_ct, r_s_drop, r_s_ret, r_s_if, r_s_set, r_s_setF, r_x_call, r_t_yes, r_s_retN, r_i_seq, x_ix, runF, env0, finR, s_no, putA, okS, isAc, look2, lookR, frzR, lookAll, imAll, imR, isD, e_add, e_sub, e_lt, e_le, e_gt, e_ge, e_eq, e_ne, e_isnone, e_isT, e_isnotnone, e_isnotT, e_isB, e_isnotB, e_neB, e_eqB, c_len, c_tuple, c_list, c_int, nD, List.getElem?_cons_zero, List.getElem?_cons_succ] at q ⊢
        simp [q]
      have q2 := v_path hp hn (z := k + 1) (by omega)
      have inner := forGo_some (γ := g_name 4) (S := [4]) (fb := s_if (t_and (t_of (x_bin p_lt (x_var 3) (x_var 4))) (t_of (x_bin p_lt (x_ix (x_var 1) (x_bin p_sub (x_var 4) (x_c (.int 1)))) (x_var 3)))) (s_ret (x_tup (a_cons (x_var 4) (a_cons (x_var 2) a_nil)))) s_nx)
        (fun e => ∃ c, e = [im (tN P), im (tN bs), im (nD (k + 1)), im (nD (fp bs (k + 1))), c]) nD (fun v => if fp bs (k + 1) < v ∧ fp bs v < fp bs (k + 1) then some (.im (.tuple [nD v, nD (k + 1)])) else none) (way (fp P) (k + 1)) [im (tN P), im (tN bs), im (nD (k + 1)), im (nD (fp bs (k + 1))), c] ⟨c, rfl⟩ fun v hv e he => by
          obtain ⟨c, rfl⟩ := he
          obtain ⟨v0, v1⟩ := way_mem hp hv
          have vn : v ≤ P.length := by
            rcases v1 with e | m
            · omega
            · have := up_lt hp m
              omega
          have q := ix1 (P := bs) (v := v) (by omega) (by omega)
          refine ⟨rfl, [im (tN P), im (tN bs), im (nD (k + 1)), im (nD (fp bs (k + 1))), im (nD v)], rfl, ?_⟩
          by_cases c1 : fp bs (k + 1) < v
          · by_cases c2 : fp bs v < fp bs (k + 1)
            · refine .inl ⟨.im (.tuple [nD v, nD (k + 1)]), [im (tN P), im (tN bs), im (nD (k + 1)), im (nD (fp bs (k + 1))), im (nD v)], if_pos ⟨c1, c2⟩, ifT (e1 := [im (tN P), im (tN bs), im (nD (k + 1)), im (nD (fp bs (k + 1))), im (nD v)]) ?_ (ret (by simp [r_x_var, r_x_c, r_two, r_x_bin, r_t_of, r_t_not, r_t_and, r_t_or, r_x_and, r_x_or, r_x_not, r_x_if, r_x_chain, r_a_nil, r_a_cons, r_argsD, r_argsI, r_x_tup, r_x_lst, r_x_isi, r_x_cb, r_s_seq, r_s_nx, r_s_bk, r_s_ct, r_s_drop, r_s_ret, r_s_if, r_s_set, r_s_setF, r_x_call, r_t_yes, r_s_retN, r_i_seq, x_ix, runF, env0, finR, s_no, putA, okS, isAc, look2, lookR, frzR, lookAll, imAll, imR, isD, e_add, e_sub, e_lt, e_le, e_gt, e_ge, e_eq, e_ne, e_isnone, e_isT, e_isnotnone, e_isnotT, e_isB, e_isnotB, e_neB, e_eqB, c_len, c_tuple, c_list, c_int, okLen]))⟩
              simp [r_x_var, r_x_c, r_two, r_x_bin, r_t_of, r_t_not, r_t_and, r_t_or, r_x_and, r_x_or, r_x_not, r_x_if, r_x_chain, r_a_nil, r_a_cons, r_argsD, r_argsI, r_x_tup, r_x_lst, r_x_isi, r_x_cb, r_s_seq, r_s_nx, r_s_bk, r_s_ct, r_s_drop, r_s_ret, r_s_if, r_s_set, r_s_setF, r_x_call, r_t_yes, r_s_retN, r_i_seq, x_ix, runF, env0, finR, s_no, putA, okS, isAc, look2, lookR, frzR, lookAll, imAll, imR, isD, e_add, e_sub, e_lt, e_le, e_gt, e_ge, e_eq, e_ne, e_isnone, e_isT, e_isnotnone, e_isnotT, e_isB, e_isnotB, e_neB, e_eqB, c_len, c_tuple, c_list, c_int, nD, q, c1, c2]
            · refine .inr ⟨if_neg fun z => c2 z.2, _, ifF (e1 := [im (tN P), im (tN bs), im (nD (k + 1)), im (nD (fp bs (k + 1))), im (nD v)]) ?_ rfl, _, rfl⟩
              simp [r_x_var, r_x_c, r_two, r_x_bin, r_t_of, r_t_not, r_t_and, r_t_or, r_x_and, r_x_or, r_x_not, r_x_if, r_x_chain, r_a_nil, r_a_cons, r_argsD, r_argsI, r_x_tup, r_x_lst, r_x_isi, r_x_cb, r_s_seq, r_s_nx, r_s_bk, r_s_ct, r_s_drop, r_s_ret, r_s_if, r_s_set, r_s_setF, r_x_call, r_t_yes, r_s_retN, r_i_seq, x_ix, runF, env0, finR, s_no, putA, okS, isAc, look2, lookR, frzR, lookAll, imAll, imR, isD, e_add, e_sub, e_lt, e_le, e_gt, e_ge, e_eq, e_ne, e_isnone, e_isT, e_isnotnone, e_isnotT, e_isB, e_isnotB, e_neB, e_eqB, c_len, c_tuple, c_list, c_int, nD, q, c1, c2]
          · refine .inr ⟨if_neg fun z => c1 z.1, _, ifF (e1 := [im (tN P), im (tN bs), im (nD (k + 1)), im (nD (fp bs (k + 1))), im (nD v)]) ?_ rfl, _, rfl⟩
            simp [r_x_var, r_x_c, r_two, r_x_bin, r_t_of, r_t_not, r_t_and, r_t_or, r_x_and, r_x_or, r_x_not, r_x_if, r_x_chain, r_a_nil, r_a_cons, r_argsD, r_argsI, r_x_tup, r_x_lst, r_x_isi, r_x_cb, r_s_seq, r_s_nx, r_s_bk, r_s_ct, r_s_drop, r_s_ret, r_s_if, r_s_set, r_s_setF, r_x_call, r_t_yes, r_s_retN, r_i_seq, x_ix, runF, env0, finR, s_no, putA, okS, isAc, look2, lookR, frzR, lookAll, imAll, imR, isD, e_add, e_sub, e_lt, e_le, e_gt, e_ge, e_eq, e_ne, e_isnone, e_isT, e_isnotnone, e_isnotT, e_isB, e_isnotB, e_neB, e_eqB, c_len, c_tuple, c_list, c_int, nD, c1]
      have it : i_seq (x_call F_path_of [] (a_cons (x_var 0) (a_cons (x_var 2) a_nil))) [im (tN P), im (tN bs), im (nD (k + 1)), im (nD (fp bs (k + 1))), c] = some ((way (fp P) (k + 1)).map nD, [im (tN P), im (tN bs), im (nD (k + 1)), im (nD (fp bs (k + 1))), c]) := by
        have q3 : F_path_of [tN P, nD (k + 1)] = some (.im (tN (way (fp P) (k + 1)))) := q2
        simp [r_x_var, r_x_c, r_two, r_x_bin, r_t_of, r_t_not, r_t_and, r_t_or, r_x_and, r_x_or, r_x_not, r_x_if, r_x_chain, r_a_nil, r_a_cons, r_argsD, r_argsI, r_x_tup, r_x_lst, r_x_isi, r_x_cb, r_s_seq, r_s_nx, r_s_bk, r_s_ct, r_s_drop, r_s_ret, r_s_if, r_s_set, r_s_setF, r_x_call, r_t_yes, r_s_retN, r_i_seq, x_ix, runF, env0, finR, s_no, putA, okS, isAc, look2, lookR, frzR, lookAll, imAll, imR, isD, e_add, e_sub, e_lt, e_le, e_gt, e_ge, e_eq, e_ne, e_isnone, e_isT, e_isnotnone, e_isnotT, e_isB, e_isnotB, e_neB, e_eqB, c_len, c_tuple, c_list, c_int, q3]
      rcases inner with ⟨r, e3, i1, i2⟩ | ⟨i1, e3, i2, c', rfl⟩
      · exact .inl ⟨r, e3, i1, sq h3 (sr (sf it i2))⟩
      · exact .inr ⟨i1, _, sq h3 (sq (sf it i2) rfl), _, _, _, rfl⟩
  rcases main with ⟨r, e3, i1, i2⟩ | ⟨i1, e3, i2, a, b, c, rfl⟩
  · have q := sf (hr [im (tN P), im (tN bs), none, none, none] _ _ _ rfl) i2
    unfold crsA
    rw [i1]
    refine runs rfl (sr q) ?_
    obtain ⟨k, _, j1⟩ := List.exists_of_findSome?_eq_some i1
    obtain ⟨v, _, j2⟩ := List.exists_of_findSome?_eq_some j1
    by_cases c : fp bs (k + 1) < v ∧ fp bs v < fp bs (k + 1)
    · rw [if_pos c] at j2
      cases j2
      rfl
    · rw [if_neg c] at j2
      cases j2
  · have q := sf (hr [im (tN P), im (tN bs), none, none, none] _ _ _ rfl) i2
    unfold crsA
    rw [i1]
    exact runs rfl (sq q (sr (ret (r := .im .none) rfl))) rfl
end
end K58
namespace K58
open PySem PySem.Spec PyProof.Rows L2 DL
section
variable {P bs : List Nat} (hp : Par (fp P)) (hn : P.length ≤ 1000) (hl : bs.length = P.length) (hb : Bas (fp P) (fp bs) P.length)
include hp hn hl hb
omit hp hn hl hb in
theorem bc {φ : List PyData → Option Rs} {d : PyData} {a b : PyData} {l : Ev} (h : φ [a, b] = some (.im d)) : x_call φ [] (a_cons (x_var 0) (a_cons (x_var 1) a_nil)) (im a :: im b :: l) = some (.im d, im a :: im b :: l) := callI (aI (vI rfl) (aI (vI rfl) a0)) rfl h
theorem crsA_cases : crsA (fp P) (fp bs) P.length = none ∨ ∃ v z, crsA (fp P) (fp bs) P.length = some (.im (.tuple [nD v, nD z])) := by
  cases h : crsA (fp P) (fp bs) P.length with
  | none => exact .inl rfl
  | some r =>
    unfold crsA at h
    obtain ⟨k, _, j1⟩ := List.exists_of_findSome?_eq_some h
    obtain ⟨v, _, j2⟩ := List.exists_of_findSome?_eq_some j1
    by_cases c : fp bs (k + 1) < v ∧ fp bs v < fp bs (k + 1)
    · rw [if_pos c] at j2
      cases j2
      exact .inr ⟨v, k + 1, rfl⟩
    · rw [if_neg c] at j2
      cases j2
theorem v_is_plan : F_is_plan [tN P, tN bs] = some (.im (.bool (crsA (fp P) (fp bs) P.length).isNone)) := by
  have q1 := v_is_bases hp hn hl hb
  have q2 := v_first hp hn hl hb
  rcases crsA_cases hp hn hl hb with h | ⟨v, z, h⟩
  · rw [h] at q2 ⊢
    exact runs rfl (ret (andT (bc q1) (binI (bc q2) cI rfl))) rfl
  · rw [h] at q2 ⊢
    exact runs rfl (ret (andT (bc q1) (binI (bc q2) cI rfl))) rfl
theorem v_crossing_of : F_crossing_of [tN P, tN bs] = some (orN (crsA (fp P) (fp bs) P.length)) := by
  have q1 := v_is_bases hp hn hl hb
  have q2 := v_first hp hn hl hb
  rcases crsA_cases hp hn hl hb with h | ⟨v, z, h⟩
  · rw [h] at q2 ⊢
    exact runs rfl (sq (ifF (tnot (bang (bc q1))) rfl) (sr (ret (bc q2)))) rfl
  · rw [h] at q2 ⊢
    exact runs rfl (sq (ifF (tnot (bang (bc q1))) rfl) (sr (ret (bc q2)))) rfl
theorem v_ask_bases : F_ask_bases [tN P, tN bs] = some (.im .none) := by
  have q1 := v_is_bases hp hn hl hb
  exact runN rfl (ifF (tnot (bang (bc q1))) rfl)
end
theorem v_ask_version (P : List Nat) (x : Str) {v : Nat} (h : v ≤ P.length) : F_ask_version [tN P, .str x, .int (v : Int), .int 0] = some (.im .none) := by
  have k := v_many (P.map nD)
  simp [F_ask_version, g_ask_version, r_x_var, r_x_c, r_two, r_x_bin, r_t_of, r_t_not, r_t_and, r_t_or, r_x_and, r_x_or, r_x_not, r_x_if, r_x_chain, r_a_nil, r_a_cons, r_argsD, r_argsI, r_x_tup, r_x_lst, r_x_isi, r_x_cb, r_s_seq, r_s_nx, r_s_bk, r_s_ct, r_s_drop, r_s_ret, r_s_if, r_s_set, r_s_setF, r_x_call, r_t_yes, r_s_retN, r_i_seq, x_ix, runF, env0, finR, s_no, putA, okS, isAc, look2, lookR, frzR, lookAll, imAll, imR, isD, e_add, e_sub, e_lt, e_le, e_gt, e_ge, e_eq, e_ne, e_isnone, e_isT, e_isnotnone, e_isnotT, e_isB, e_isnotB, e_neB, e_eqB, c_len, c_tuple, c_list, c_int, v_is_number, k, h]
/-! chains -/
def chF (b : Nat → Nat) : Nat → Nat → List Nat
  | 0, _ => []
  | f + 1, v => if v = 0 then [] else v :: chF b f (b v)
def ch (b : Nat → Nat) (v : Nat) : List Nat := chF b v v
theorem chF_eq {b : Nat → Nat} {n : Nat} (hb : Dn b n) : ∀ (f v : Nat), v ≤ f → v ≤ n → chF b f v = chF b v v
  | 0, v, h, _ => by
    have : v = 0 := by omega
    subst this
    rfl
  | f + 1, 0, h, _ => rfl
  | f + 1, v + 1, h, hn => by
    have h1 := hb (v + 1) (by omega) hn
    show (if v + 1 = 0 then [] else (v + 1) :: chF b f (b (v + 1))) = (if v + 1 = 0 then [] else (v + 1) :: chF b v (b (v + 1)))
    rw [if_neg (by omega), if_neg (by omega), chF_eq hb f (b (v + 1)) (by omega) (by omega), chF_eq hb v (b (v + 1)) (by omega) (by omega)]
theorem ch_zero {b : Nat → Nat} : ch b 0 = [] := rfl
theorem ch_pos {b : Nat → Nat} {n : Nat} (hb : Dn b n) {v : Nat} (h : 1 ≤ v) (hn : v ≤ n) : ch b v = v :: ch b (b v) := by
  cases v with
  | zero => omega
  | succ v =>
    have h1 := hb (v + 1) (by omega) hn
    show (if v + 1 = 0 then [] else (v + 1) :: chF b v (b (v + 1))) = _
    rw [if_neg (by omega), chF_eq hb v (b (v + 1)) (by omega) (by omega)]
    rfl
section
variable {bs : List Nat} (hb : Dn (fp bs) bs.length) (hn : bs.length ≤ 1000)
include hb hn
theorem chain_loop : ∀ (v n : Nat) (acc : List PyData), v < n → v ≤ bs.length → acc.length + v ≤ 10000 →
    whGo (t_of (x_bin p_gt (x_var 1) (x_c (.int 0)))) (s_seq (s_drop (x_app 2 (x_var 1))) (s_seq (s_setF 1 (x_ix (x_var 0) (x_bin p_sub (x_var 1) (x_c (.int 1))))) s_nx)) n [im (tN bs), im (.int (v : Int)), ac acc]
      = some (.nx [im (tN bs), im (.int 0), ac (acc ++ (ch (fp bs) v).map nD)]) := by
  intro v
  induction v using Nat.strongRecOn with
  | ind v ih =>
    intro n acc hv hl ha
    cases n with
    | zero => omega
    | succ n =>
      by_cases h0 : v = 0
      · subst h0
        simp [whGo, r_x_var, r_x_c, r_two, r_x_bin, r_t_of, r_t_not, r_t_and, r_t_or, r_x_and, r_x_or, r_x_not, r_x_if, r_x_chain, r_a_nil, r_a_cons, r_argsD, r_argsI, r_x_tup, r_x_lst, r_x_isi, r_x_cb, r_s_seq, r_s_nx, r_s_bk, r_s_ct, r_s_drop, r_s_ret, r_s_if, r_s_set, r_s_setF, r_x_call, r_t_yes, r_s_retN, r_i_seq, x_ix, runF, env0, finR, s_no, putA, okS, isAc, look2, lookR, frzR, lookAll, imAll, imR, isD, e_add, e_sub, e_lt, e_le, e_gt, e_ge, e_eq, e_ne, e_isnone, e_isT, e_isnotnone, e_isnotT, e_isB, e_isnotB, e_neB, e_eqB, c_len, c_tuple, c_list, c_int, ch_zero]
      · have h1 : 1 ≤ v := by omega
        have h2 := hb v h1 hl
        have q := ih (fp bs v) h2 n (acc ++ [nD v]) (by omega) (by omega) (by simp only [List.length_append, List.length_cons, List.length_nil]; omega)
        have c : 0 < v := by omega
        have k : okLen (acc.length + 1) = true := okLen_yes (by omega)
        simp only [nD] at q
        simp [whGo, r_x_var, r_x_c, r_two, r_x_bin, r_t_of, r_t_not, r_t_and, r_t_or, r_x_and, r_x_or, r_x_not, r_x_if, r_x_chain, r_a_nil, r_a_cons, r_argsD, r_argsI, r_x_tup, r_x_lst, r_x_isi, r_x_cb, r_s_seq, r_s_nx, r_s_bk, r_s_ct, r_s_drop, r_s_ret, r_s_if, r_s_set, r_s_setF, r_x_call, r_t_yes, r_s_retN, r_i_seq, x_ix, runF, env0, finR, s_no, putA, okS, isAc, look2, lookR, frzR, lookAll, imAll, imR, isD, e_add, e_sub, e_lt, e_le, e_gt, e_ge, e_eq, e_ne, e_isnone, e_isT, e_isnotnone, e_isnotT, e_isB, e_isnotB, e_neB, e_eqB, c_len, c_tuple, c_list, c_int, r_x_app, ix1 h1 hl, c, k, q, ch_pos hb h1 hl, nD]
theorem v_chain {v : Nat} (hv : v ≤ bs.length) : F_chain_from [tN bs, .int (v : Int)] = some (.ac ((ch (fp bs) v).map nD)) := by
  have q := chain_loop hb hn v (v + 1) [] (by omega) hv (by simp; omega)
  simp [F_chain_from, g_chain_from, r_x_var, r_x_c, r_two, r_x_bin, r_t_of, r_t_not, r_t_and, r_t_or, r_x_and, r_x_or, r_x_not, r_x_if, r_x_chain, r_a_nil, r_a_cons, r_argsD, r_argsI, r_x_tup, r_x_lst, r_x_isi, r_x_cb, r_s_seq, r_s_nx, r_s_bk, r_s_ct, r_s_drop, r_s_ret, r_s_if, r_s_set, r_s_setF, r_x_call, r_t_yes, r_s_retN, r_i_seq, x_ix, runF, env0, finR, s_no, putA, okS, isAc, look2, lookR, frzR, lookAll, imAll, imR, isD, e_add, e_sub, e_lt, e_le, e_gt, e_ge, e_eq, e_ne, e_isnone, e_isT, e_isnotnone, e_isnotT, e_isB, e_isnotB, e_neB, e_eqB, c_len, c_tuple, c_list, c_int, r_s_while, fuI, okLen] at q ⊢
  simp [q]
end
section
variable {P bs : List Nat} (hp : Par (fp P)) (hn : P.length ≤ 1000) (hl : bs.length = P.length) (hb : Bas (fp P) (fp bs) P.length)
include hp hn hl hb
theorem v_chain_of {v : Nat} (hv : v ≤ P.length) : F_chain_of [tN P, tN bs, .int (v : Int)] = some (.im (tN (ch (fp bs) v))) := by
  have q1 := v_ask_bases hp hn hl hb
  have q2 := fun x => v_ask_version P x hv
  have q3 := v_chain (bs := bs) (by rw [hl]; exact bas_dn hp hb) (by omega) (v := v) (by omega)
  simp [F_chain_of, g_chain_of, r_x_var, r_x_c, r_two, r_x_bin, r_t_of, r_t_not, r_t_and, r_t_or, r_x_and, r_x_or, r_x_not, r_x_if, r_x_chain, r_a_nil, r_a_cons, r_argsD, r_argsI, r_x_tup, r_x_lst, r_x_isi, r_x_cb, r_s_seq, r_s_nx, r_s_bk, r_s_ct, r_s_drop, r_s_ret, r_s_if, r_s_set, r_s_setF, r_x_call, r_t_yes, r_s_retN, r_i_seq, x_ix, runF, env0, finR, s_no, putA, okS, isAc, look2, lookR, frzR, lookAll, imAll, imR, isD, e_add, e_sub, e_lt, e_le, e_gt, e_ge, e_eq, e_ne, e_isnone, e_isT, e_isnotnone, e_isnotT, e_isB, e_isnotB, e_neB, e_eqB, c_len, c_tuple, c_list, c_int, q1, q2, q3]
/-- what a version's sheet holds -/
def sheet (p b : Nat → Nat) (z : Nat) : List Nat := (way p z).filter fun u => decide (b z < u)
theorem v_sheet {z : Nat} (h1 : 1 ≤ z) (hz : z ≤ P.length) : F_sheet_from [tN P, tN bs, .int (z : Int)] = some (.im (tN (sheet (fp P) (fp bs) z))) := by
  have q1 := v_path hp hn hz
  have q2 := ix1 (P := bs) (v := z) h1 (by omega)
  have lw : (way (fp P) z).length ≤ 1001 := by
    unfold way
    have := List.length_filter_le (fun u => decide (0 < u)) (z :: up (fp P) z).reverse
    have := up_len hp z
    simp only [List.length_reverse, List.length_cons] at *
    omega
  have q : x_lc (i_seq (x_call F_path_of [] (a_cons (x_var 0) (a_cons (x_var 2) a_nil)))) (g_name 3) (t_of (x_bin p_gt (x_var 3) (x_ix (x_var 1) (x_bin p_sub (x_var 2) (x_c (.int 1)))))) (x_var 3) [3] [im (tN P), im (tN bs), im (.int (z : Int)), none]
      = some (.ac ((sheet (fp P) (fp bs) z).map nD), [im (tN P), im (tN bs), im (.int (z : Int)), none]) := by
    rw [x_lc_map (e1 := [im (tN P), im (tN bs), im (.int (z : Int)), none]) (ds := (way (fp P) z).map nD) (fun d => match d with
      | .int i => decide ((fp bs z : Int) < i)
      | _ => false) id (by simp [r_x_var, r_x_c, r_two, r_x_bin, r_t_of, r_t_not, r_t_and, r_t_or, r_x_and, r_x_or, r_x_not, r_x_if, r_x_chain, r_a_nil, r_a_cons, r_argsD, r_argsI, r_x_tup, r_x_lst, r_x_isi, r_x_cb, r_s_seq, r_s_nx, r_s_bk, r_s_ct, r_s_drop, r_s_ret, r_s_if, r_s_set, r_s_setF, r_x_call, r_t_yes, r_s_retN, r_i_seq, x_ix, runF, env0, finR, s_no, putA, okS, isAc, look2, lookR, frzR, lookAll, imAll, imR, isD, e_add, e_sub, e_lt, e_le, e_gt, e_ge, e_eq, e_ne, e_isnone, e_isT, e_isnotnone, e_isnotT, e_isB, e_isnotB, e_neB, e_eqB, c_len, c_tuple, c_list, c_int, q1]) rfl (by rw [List.length_map]; omega) fun d m => ?_]
    · rw [List.map_id, List.filter_map]
      unfold sheet
      congr 4
      refine List.filter_congr fun u _ => ?_
      simp [nD]
    · obtain ⟨u, _, rfl⟩ := List.mem_map.mp m
      refine ⟨[im (tN P), im (tN bs), im (.int (z : Int)), im (nD u)], [im (tN P), im (tN bs), im (.int (z : Int)), im (nD u)], rfl, by simp [r_x_var, r_x_c, r_two, r_x_bin, r_t_of, r_t_not, r_t_and, r_t_or, r_x_and, r_x_or, r_x_not, r_x_if, r_x_chain, r_a_nil, r_a_cons, r_argsD, r_argsI, r_x_tup, r_x_lst, r_x_isi, r_x_cb, r_s_seq, r_s_nx, r_s_bk, r_s_ct, r_s_drop, r_s_ret, r_s_if, r_s_set, r_s_setF, r_x_call, r_t_yes, r_s_retN, r_i_seq, x_ix, runF, env0, finR, s_no, putA, okS, isAc, look2, lookR, frzR, lookAll, imAll, imR, isD, e_add, e_sub, e_lt, e_le, e_gt, e_ge, e_eq, e_ne, e_isnone, e_isT, e_isnotnone, e_isnotT, e_isB, e_isnotB, e_neB, e_eqB, c_len, c_tuple, c_list, c_int, nD, q2], fun _ => rfl, fun _ => ⟨.im (nD u), [im (tN P), im (tN bs), im (.int (z : Int)), im (nD u)], rfl, rfl, rfl⟩⟩
  exact runs rfl (ret (cbT q)) rfl
end
end K58
namespace K58
open PySem PySem.Spec PyProof.Rows L2 DL
theorem ixR {g : Nat → PyData} {m a : Nat} (h : a < m) : p_ix (.list ((List.range m).map g)) (.int (a : Int)) = some (.im (g a)) := by
  refine e_ixL ?_
  rw [List.getElem?_map, List.getElem?_range h]
  rfl
theorem at_pre {bs pre post : List Nat} {a : Nat} (h : bs = pre ++ a :: post) : a = fp bs (pre.length + 1) ∧ pre.length < bs.length := by
  have l : pre.length < bs.length := by
    rw [h]
    simp
  refine ⟨?_, l⟩
  have q := fp_get (P := bs) (v := pre.length + 1) (by omega) (by omega)
  rw [Nat.add_sub_cancel] at q
  have z : bs[pre.length]? = some a := by
    rw [h]
    simp
  rw [z] at q
  exact Option.some.inj q
/-- the reads of all versions, with the root -/
def rdL (b : Nat → Nat) (m : Nat) : List PyData := (List.range (m + 1)).map fun v => nD (rd b v)
theorem rdL_len (b : Nat → Nat) (m : Nat) : (rdL b m).length = m + 1 := by
  unfold rdL
  (rw [List.length_map, List.length_range])
theorem rdL_succ {b : Nat → Nat} {n m : Nat} (hb : Dn b n) (h : m + 1 ≤ n) : rdL b (m + 1) = rdL b m ++ [nD (rd b (b (m + 1)) + 1)] := by
  unfold rdL
  rw [List.range_succ, List.map_append]
  rw [List.map_cons, List.map_nil, rd_pos hb (v := m + 1) (by omega) h]
section
variable {bs : List Nat} (hb : Dn (fp bs) bs.length) (hn : bs.length ≤ 1000)
include hb hn
theorem v_law_reads : F__law_reads [tN bs] = some (.ac (rdL (fp bs) bs.length)) := by
  obtain ⟨e3, h1, s, h2⟩ := forGo_inv (γ := g_name 2) (S := [2]) (fb := s_drop (x_app 1 (x_bin p_add (x_c (.int 1)) (x_ix (x_var 1) (x_var 2))))) nD bs (fun pre e => ∃ s, e = [im (tN bs), ac (rdL (fp bs) pre.length), s]) [im (tN bs), ac (rdL (fp bs) 0), none] ⟨none, rfl⟩ fun pre a post hk e he => by
    obtain ⟨s, rfl⟩ := he
    obtain ⟨ha, hl⟩ := at_pre hk
    have q := rdL_succ hb (m := pre.length) hl
    have lt := hb (pre.length + 1) (by omega) hl
    have qi : p_ix (.list (rdL (fp bs) pre.length)) (.int (a : Int)) = some (.im (nD (rd (fp bs) a))) := ixR (g := fun v => nD (rd (fp bs) v)) (by omega)
    refine ⟨rfl, [im (tN bs), ac (rdL (fp bs) pre.length), im (nD a)], [im (tN bs), ac (rdL (fp bs) (pre.length + 1)), im (nD a)], rfl, .inl (drop (r := .im .none) ?_), im (nD a), by simp⟩
    have k : okLen ((rdL (fp bs) pre.length).length + 1) = true := okLen_yes (by rw [rdL_len]; omega)
    have c : (1 : Int) + (rd (fp bs) a : Int) = ((rd (fp bs) a + 1 : Nat) : Int) := by omega
    rw [ha] at qi c ⊢
    simp [r_x_var, r_x_c, r_two, r_x_bin, r_t_of, r_t_not, r_t_and, r_t_or, r_x_and, r_x_or, r_x_not, r_x_if, r_x_chain, r_a_nil, r_a_cons, r_argsD, r_argsI, r_x_tup, r_x_lst, r_x_isi, r_x_cb, r_s_seq, r_s_nx, r_s_bk, r_s_ct, r_s_drop, r_s_ret, r_s_if, r_s_set, r_s_setF, r_x_call, r_t_yes, r_s_retN, r_i_seq, x_ix, runF, env0, finR, s_no, putA, okS, isAc, look2, lookR, frzR, lookAll, imAll, imR, isD, e_add, e_sub, e_lt, e_le, e_gt, e_ge, e_eq, e_ne, e_isnone, e_isT, e_isnotnone, e_isnotT, e_isB, e_isnotB, e_neB, e_eqB, c_len, c_tuple, c_list, c_int, r_x_app, nD, k] at qi ⊢
    simp [r_x_var, r_x_c, r_two, r_x_bin, r_t_of, r_t_not, r_t_and, r_t_or, r_x_and, r_x_or, r_x_not, r_x_if, r_x_chain, r_a_nil, r_a_cons, r_argsD, r_argsI, r_x_tup, r_x_lst, r_x_isi, r_x_cb, r_s_seq, r_s_nx, r_s_bk, r_s_ct, r_s_drop, r_s_ret, r_s_if, r_s_set, r_s_setF, r_x_call, r_t_yes, r_s_retN, r_i_seq, x_ix, runF, env0, finR, s_no, putA, okS, isAc, look2, lookR, frzR, lookAll, imAll, imR, isD, e_add, e_sub, e_lt, e_le, e_gt, e_ge, e_eq, e_ne, e_isnone, e_isT, e_isnotnone, e_isnotT, e_isB, e_isnotB, e_neB, e_eqB, c_len, c_tuple, c_list, c_int, r_x_app, nD, k, qi, c, q]
  subst h2
  exact runs rfl (sq (setX (i := 1) (r := .ac [nD 0]) (e1 := [im (tN bs), none, none]) (e2 := [im (tN bs), ac (rdL (fp bs) 0), none]) (by simp [r_x_var, r_x_c, r_two, r_x_bin, r_t_of, r_t_not, r_t_and, r_t_or, r_x_and, r_x_or, r_x_not, r_x_if, r_x_chain, r_a_nil, r_a_cons, r_argsD, r_argsI, r_x_tup, r_x_lst, r_x_isi, r_x_cb, r_s_seq, r_s_nx, r_s_bk, r_s_ct, r_s_drop, r_s_ret, r_s_if, r_s_set, r_s_setF, r_x_call, r_t_yes, r_s_retN, r_i_seq, x_ix, runF, env0, finR, s_no, putA, okS, isAc, look2, lookR, frzR, lookAll, imAll, imR, isD, e_add, e_sub, e_lt, e_le, e_gt, e_ge, e_eq, e_ne, e_isnone, e_isT, e_isnotnone, e_isnotT, e_isB, e_isnotB, e_neB, e_eqB, c_len, c_tuple, c_list, c_int, okLen, nD]) rfl rfl) (sq (sf (e1 := [im (tN bs), ac (rdL (fp bs) 0), none]) (ds := bs.map nD) (by simp [r_x_var, r_x_c, r_two, r_x_bin, r_t_of, r_t_not, r_t_and, r_t_or, r_x_and, r_x_or, r_x_not, r_x_if, r_x_chain, r_a_nil, r_a_cons, r_argsD, r_argsI, r_x_tup, r_x_lst, r_x_isi, r_x_cb, r_s_seq, r_s_nx, r_s_bk, r_s_ct, r_s_drop, r_s_ret, r_s_if, r_s_set, r_s_setF, r_x_call, r_t_yes, r_s_retN, r_i_seq, x_ix, runF, env0, finR, s_no, putA, okS, isAc, look2, lookR, frzR, lookAll, imAll, imR, isD, e_add, e_sub, e_lt, e_le, e_gt, e_ge, e_eq, e_ne, e_isnone, e_isT, e_isnotnone, e_isnotT, e_isB, e_isnotB, e_neB, e_eqB, c_len, c_tuple, c_list, c_int]) h1) (sr (ret (r := .br 1) rfl)))) rfl
end
section
variable {P bs : List Nat} (hp : Par (fp P)) (hn : P.length ≤ 1000) (hl : bs.length = P.length) (hb : Bas (fp P) (fp bs) P.length)
include hp hn hl hb
theorem v_reads_by : F_reads_by [tN P, tN bs] = some (.im (.tuple (rdL (fp bs) P.length))) := by
  have dn : Dn (fp bs) bs.length := by
    rw [hl]
    exact bas_dn hp hb
  have q0 := v_ask_bases hp hn hl hb
  obtain ⟨e3, h1, s, h2⟩ := forGo_inv (γ := g_name 3) (S := [3]) (fb := s_drop (x_app 2 (x_bin p_add (x_ix (x_var 2) (x_var 3)) (x_c (.int 1))))) nD bs (fun pre e => ∃ s, e = [im (tN P), im (tN bs), ac (rdL (fp bs) pre.length), s]) [im (tN P), im (tN bs), ac (rdL (fp bs) 0), none] ⟨none, rfl⟩ fun pre a post hk e he => by
    obtain ⟨s, rfl⟩ := he
    obtain ⟨ha, hl⟩ := at_pre hk
    have q := rdL_succ dn (m := pre.length) hl
    have lt := dn (pre.length + 1) (by omega) hl
    have qi : p_ix (.list (rdL (fp bs) pre.length)) (.int (a : Int)) = some (.im (nD (rd (fp bs) a))) := ixR (g := fun v => nD (rd (fp bs) v)) (by omega)
    refine ⟨rfl, [im (tN P), im (tN bs), ac (rdL (fp bs) pre.length), im (nD a)], [im (tN P), im (tN bs), ac (rdL (fp bs) (pre.length + 1)), im (nD a)], rfl, .inl (drop (r := .im .none) ?_), im (nD a), by simp⟩
    have k : okLen ((rdL (fp bs) pre.length).length + 1) = true := okLen_yes (by rw [rdL_len]; omega)
    rw [ha] at qi ⊢
    simp [r_x_var, r_x_c, r_two, r_x_bin, r_t_of, r_t_not, r_t_and, r_t_or, r_x_and, r_x_or, r_x_not, r_x_if, r_x_chain, r_a_nil, r_a_cons, r_argsD, r_argsI, r_x_tup, r_x_lst, r_x_isi, r_x_cb, r_s_seq, r_s_nx, r_s_bk, r_s_ct, r_s_drop, r_s_ret, r_s_if, r_s_set, r_s_setF, r_x_call, r_t_yes, r_s_retN, r_i_seq, x_ix, runF, env0, finR, s_no, putA, okS, isAc, look2, lookR, frzR, lookAll, imAll, imR, isD, e_add, e_sub, e_lt, e_le, e_gt, e_ge, e_eq, e_ne, e_isnone, e_isT, e_isnotnone, e_isnotT, e_isB, e_isnotB, e_neB, e_eqB, c_len, c_tuple, c_list, c_int, r_x_app, nD, k] at qi ⊢
    simp [r_x_var, r_x_c, r_two, r_x_bin, r_t_of, r_t_not, r_t_and, r_t_or, r_x_and, r_x_or, r_x_not, r_x_if, r_x_chain, r_a_nil, r_a_cons, r_argsD, r_argsI, r_x_tup, r_x_lst, r_x_isi, r_x_cb, r_s_seq, r_s_nx, r_s_bk, r_s_ct, r_s_drop, r_s_ret, r_s_if, r_s_set, r_s_setF, r_x_call, r_t_yes, r_s_retN, r_i_seq, x_ix, runF, env0, finR, s_no, putA, okS, isAc, look2, lookR, frzR, lookAll, imAll, imR, isD, e_add, e_sub, e_lt, e_le, e_gt, e_ge, e_eq, e_ne, e_isnone, e_isT, e_isnotnone, e_isnotT, e_isB, e_isnotB, e_neB, e_eqB, c_len, c_tuple, c_list, c_int, r_x_app, nD, k, qi, q]
  subst h2
  rw [hl] at h1
  exact runs rfl (sq (drop (bc q0)) (sq (setX (i := 2) (r := .ac [nD 0]) (e1 := [im (tN P), im (tN bs), none, none]) (e2 := [im (tN P), im (tN bs), ac (rdL (fp bs) 0), none]) (by simp [r_x_var, r_x_c, r_two, r_x_bin, r_t_of, r_t_not, r_t_and, r_t_or, r_x_and, r_x_or, r_x_not, r_x_if, r_x_chain, r_a_nil, r_a_cons, r_argsD, r_argsI, r_x_tup, r_x_lst, r_x_isi, r_x_cb, r_s_seq, r_s_nx, r_s_bk, r_s_ct, r_s_drop, r_s_ret, r_s_if, r_s_set, r_s_setF, r_x_call, r_t_yes, r_s_retN, r_i_seq, x_ix, runF, env0, finR, s_no, putA, okS, isAc, look2, lookR, frzR, lookAll, imAll, imR, isD, e_add, e_sub, e_lt, e_le, e_gt, e_ge, e_eq, e_ne, e_isnone, e_isT, e_isnotnone, e_isnotT, e_isB, e_isnotB, e_neB, e_eqB, c_len, c_tuple, c_list, c_int, okLen, nD]) rfl rfl) (sq (sf (e1 := [im (tN P), im (tN bs), ac (rdL (fp bs) 0), none]) (ds := bs.map nD) (by simp [r_x_var, r_x_c, r_two, r_x_bin, r_t_of, r_t_not, r_t_and, r_t_or, r_x_and, r_x_or, r_x_not, r_x_if, r_x_chain, r_a_nil, r_a_cons, r_argsD, r_argsI, r_x_tup, r_x_lst, r_x_isi, r_x_cb, r_s_seq, r_s_nx, r_s_bk, r_s_ct, r_s_drop, r_s_ret, r_s_if, r_s_set, r_s_setF, r_x_call, r_t_yes, r_s_retN, r_i_seq, x_ix, runF, env0, finR, s_no, putA, okS, isAc, look2, lookR, frzR, lookAll, imAll, imR, isD, e_add, e_sub, e_lt, e_le, e_gt, e_ge, e_eq, e_ne, e_isnone, e_isT, e_isnotnone, e_isnotT, e_isB, e_isnotB, e_neB, e_eqB, c_len, c_tuple, c_list, c_int]) h1) (sr (ret (cbTv rfl)))))) rfl
end
/-! heights -/
section
variable {P : List Nat} (hn : P.length ≤ 1000)
include hn
theorem v_is_heights {hs : List Int} (hl : hs.length = P.length) (h1 : ∀ x ∈ hs, 1 ≤ x) : F_is_heights [tN P, tZ hs] = some (.im (.bool true)) := by
  have q : x_lc (i_seq (x_var 1)) (g_name 2) t_yes (x_call F_is_natural [] (a_cons (x_var 2) a_nil)) [2] [im (tN P), im (tZ hs), none] = some (.ac ((hs.map fun _ => true).map PyData.bool), [im (tN P), im (tZ hs), none]) := by
    rw [x_lc_all (e1 := [im (tN P), im (tZ hs), none]) (ds := hs.map PyData.int) (fun _ => .bool true) (by simp [r_x_var, r_x_c, r_two, r_x_bin, r_t_of, r_t_not, r_t_and, r_t_or, r_x_and, r_x_or, r_x_not, r_x_if, r_x_chain, r_a_nil, r_a_cons, r_argsD, r_argsI, r_x_tup, r_x_lst, r_x_isi, r_x_cb, r_s_seq, r_s_nx, r_s_bk, r_s_ct, r_s_drop, r_s_ret, r_s_if, r_s_set, r_s_setF, r_x_call, r_t_yes, r_s_retN, r_i_seq, x_ix, runF, env0, finR, s_no, putA, okS, isAc, look2, lookR, frzR, lookAll, imAll, imR, isD, e_add, e_sub, e_lt, e_le, e_gt, e_ge, e_eq, e_ne, e_isnone, e_isT, e_isnotnone, e_isnotT, e_isB, e_isnotB, e_neB, e_eqB, c_len, c_tuple, c_list, c_int]) rfl (by rw [List.length_map]; omega) fun d m => ?_]
    · simp
    · obtain ⟨x, hx, rfl⟩ := List.mem_map.mp m
      have k := v_is_natural x
      rw [decide_eq_true (h1 x hx)] at k
      exact ⟨[im (tN P), im (tZ hs), im (.int x)], .im (.bool true), [im (tN P), im (tZ hs), im (.int x)], rfl, callI (aI (vI rfl) a0) rfl k, rfl, rfl⟩
  have q2 := cbA q
  have q3 : (hs.map fun _ => true).all id = true := by simp
  rw [q3] at q2
  refine runs rfl (sq (ifF (e1 := [im (tN P), im (tZ hs), none]) ?_ rfl) (sr (ret q2))) rfl
  simp [r_x_var, r_x_c, r_two, r_x_bin, r_t_of, r_t_not, r_t_and, r_t_or, r_x_and, r_x_or, r_x_not, r_x_if, r_x_chain, r_a_nil, r_a_cons, r_argsD, r_argsI, r_x_tup, r_x_lst, r_x_isi, r_x_cb, r_s_seq, r_s_nx, r_s_bk, r_s_ct, r_s_drop, r_s_ret, r_s_if, r_s_set, r_s_setF, r_x_call, r_t_yes, r_s_retN, r_i_seq, x_ix, runF, env0, finR, s_no, putA, okS, isAc, look2, lookR, frzR, lookAll, imAll, imR, isD, e_add, e_sub, e_lt, e_le, e_gt, e_ge, e_eq, e_ne, e_isnone, e_isT, e_isnotnone, e_isnotT, e_isB, e_isnotB, e_neB, e_eqB, c_len, c_tuple, c_list, c_int, hl]
end
section
variable {P : List Nat} (hp : Par (fp P)) (hn : P.length ≤ 1000)
include hp hn
theorem by_loop {w : Nat} {hs : List Int} (hl : hs.length = P.length) (x : Int) (A : List PyData) : ∀ (u n : Nat), u < n → u ≤ P.length →
    whGo (t_and (t_of (x_bin p_ne (x_var 5) (x_c (.int 0)))) (t_of (x_bin p_le (x_ix (x_var 1) (x_bin p_sub (x_var 5) (x_c (.int 1)))) (x_var 3)))) (s_setF 5 (x_ix (x_var 0) (x_bin p_sub (x_var 5) (x_c (.int 1))))) n
      [im (tN P), im (tZ hs), ac A, im (.int x), im (.int (w : Int)), im (.int (u : Int))] = some (.nx [im (tN P), im (tZ hs), ac A, im (.int x), im (.int (w : Int)), im (.int (far (fz hs) x (u :: up (fp P) u) : Int))]) := by
  intro u
  induction u using Nat.strongRecOn with
  | ind u ih =>
    intro n hv hlu
    cases n with
    | zero => omega
    | succ n =>
      by_cases h0 : u = 0
      · subst h0
        have e : far (fz hs) x (0 :: up (fp P) 0) = 0 := rfl
        rw [e]
        simp [whGo, r_x_var, r_x_c, r_two, r_x_bin, r_t_of, r_t_not, r_t_and, r_t_or, r_x_and, r_x_or, r_x_not, r_x_if, r_x_chain, r_a_nil, r_a_cons, r_argsD, r_argsI, r_x_tup, r_x_lst, r_x_isi, r_x_cb, r_s_seq, r_s_nx, r_s_bk, r_s_ct, r_s_drop, r_s_ret, r_s_if, r_s_set, r_s_setF, r_x_call, r_t_yes, r_s_retN, r_i_seq, x_ix, runF, env0, finR, s_no, putA, okS, isAc, look2, lookR, frzR, lookAll, imAll, imR, isD, e_add, e_sub, e_lt, e_le, e_gt, e_ge, e_eq, e_ne, e_isnone, e_isT, e_isnotnone, e_isnotT, e_isB, e_isnotB, e_neB, e_eqB, c_len, c_tuple, c_list, c_int]
      · have h1 : 1 ≤ u := by omega
        have q1 := ix1Z (P := hs) (v := u) h1 (by omega)
        have q2 := ix1 (P := P) (v := u) h1 hlu
        have h2 := hp u h1
        by_cases c : fz hs u ≤ x
        · have e : far (fz hs) x (u :: up (fp P) u) = far (fz hs) x (fp P u :: up (fp P) (fp P u)) := by
            rw [← up_pos hp h1]
            exact if_neg fun z => by omega
          rw [e, ← ih (fp P u) h2 n (by omega) (by omega)]
          simp [whGo, r_x_var, r_x_c, r_two, r_x_bin, r_t_of, r_t_not, r_t_and, r_t_or, r_x_and, r_x_or, r_x_not, r_x_if, r_x_chain, r_a_nil, r_a_cons, r_argsD, r_argsI, r_x_tup, r_x_lst, r_x_isi, r_x_cb, r_s_seq, r_s_nx, r_s_bk, r_s_ct, r_s_drop, r_s_ret, r_s_if, r_s_set, r_s_setF, r_x_call, r_t_yes, r_s_retN, r_i_seq, x_ix, runF, env0, finR, s_no, putA, okS, isAc, look2, lookR, frzR, lookAll, imAll, imR, isD, e_add, e_sub, e_lt, e_le, e_gt, e_ge, e_eq, e_ne, e_isnone, e_isT, e_isnotnone, e_isnotT, e_isB, e_isnotB, e_neB, e_eqB, c_len, c_tuple, c_list, c_int, h0, q1, q2, c]
        · have e : far (fz hs) x (u :: up (fp P) u) = u := if_pos ⟨by omega, by omega⟩
          rw [e]
          simp [whGo, r_x_var, r_x_c, r_two, r_x_bin, r_t_of, r_t_not, r_t_and, r_t_or, r_x_and, r_x_or, r_x_not, r_x_if, r_x_chain, r_a_nil, r_a_cons, r_argsD, r_argsI, r_x_tup, r_x_lst, r_x_isi, r_x_cb, r_s_seq, r_s_nx, r_s_bk, r_s_ct, r_s_drop, r_s_ret, r_s_if, r_s_set, r_s_setF, r_x_call, r_t_yes, r_s_retN, r_i_seq, x_ix, runF, env0, finR, s_no, putA, okS, isAc, look2, lookR, frzR, lookAll, imAll, imR, isD, e_add, e_sub, e_lt, e_le, e_gt, e_ge, e_eq, e_ne, e_isnone, e_isT, e_isnotnone, e_isnotT, e_isB, e_isnotB, e_neB, e_eqB, c_len, c_tuple, c_list, c_int, h0, q1, c]
/-- the plan of heights -/
def planL (p : Nat → Nat) (h : Nat → Int) (n : Nat) : List Nat := (List.range n).map fun k => nh p h (k + 1)
theorem v_bases_by {hs : List Int} (hl : hs.length = P.length) (h1 : ∀ x ∈ hs, 1 ≤ x) : F_bases_by [tN P, tZ hs] = some (.im (tN (planL (fp P) (fz hs) P.length))) := by
  have q0 := v_is_heights hn hl h1
  obtain ⟨e3, g1, a, b, c, g2⟩ := forGo_inv (γ := g_tup [3, 4]) (S := [3, 4]) (fb := s_seq (s_setF 5 (x_var 4)) (s_seq (s_while (fuI 5) (t_and (t_of (x_bin p_ne (x_var 5) (x_c (.int 0)))) (t_of (x_bin p_le (x_ix (x_var 1) (x_bin p_sub (x_var 5) (x_c (.int 1)))) (x_var 3)))) (s_setF 5 (x_ix (x_var 0) (x_bin p_sub (x_var 5) (x_c (.int 1)))))) (s_seq (s_drop (x_app 2 (x_var 5))) s_nx)))
    (fun k => PyData.tuple [.int (fz hs (k + 1)), nD (fp P (k + 1))]) (List.range P.length) (fun pre e => ∃ a b c, e = [im (tN P), im (tZ hs), ac (pre.map fun k => nD (nh (fp P) (fz hs) (k + 1))), a, b, c]) [im (tN P), im (tZ hs), ac [], none, none, none] ⟨_, _, _, rfl⟩ fun pre k post hk e he => by
      obtain ⟨a, b, c, rfl⟩ := he
      have lk : k < P.length := List.mem_range.mp (by rw [hk]; simp)
      have lpre : pre.length ≤ P.length := by
        have := congrArg List.length hk
        rw [List.length_range, List.length_append] at this
        omega
      have h2 := hp (k + 1) (by omega)
      have lp := by_loop (w := fp P (k + 1)) hp hn hl (fz hs (k + 1)) (pre.map fun k => nD (nh (fp P) (fz hs) (k + 1))) (fp P (k + 1)) (fp P (k + 1) + 1) (by omega) (by omega)
      have e : far (fz hs) (fz hs (k + 1)) (fp P (k + 1) :: up (fp P) (fp P (k + 1))) = nh (fp P) (fz hs) (k + 1) := by
        unfold nh
        rw [up_pos hp (v := k + 1) (by omega)]
      rw [e] at lp
      have kk : okLen ((pre.map fun k => nD (nh (fp P) (fz hs) (k + 1))).length + 1) = true := okLen_yes (by rw [List.length_map]; omega)
      refine ⟨rfl, [im (tN P), im (tZ hs), ac (pre.map fun k => nD (nh (fp P) (fz hs) (k + 1))), im (.int (fz hs (k + 1))), im (nD (fp P (k + 1))), c], [im (tN P), im (tZ hs), ac ((pre ++ [k]).map fun k => nD (nh (fp P) (fz hs) (k + 1))), im (.int (fz hs (k + 1))), im (nD (fp P (k + 1))), im (nD (nh (fp P) (fz hs) (k + 1)))], rfl, .inl ?_, _, _, _, rfl⟩
      refine sq (e1 := [im (tN P), im (tZ hs), ac (pre.map fun k => nD (nh (fp P) (fz hs) (k + 1))), im (.int (fz hs (k + 1))), im (nD (fp P (k + 1))), im (nD (fp P (k + 1)))]) (setF (r := .im (nD (fp P (k + 1)))) (vI rfl) rfl rfl) (sq (e1 := [im (tN P), im (tZ hs), ac (pre.map fun k => nD (nh (fp P) (fz hs) (k + 1))), im (.int (fz hs (k + 1))), im (nD (fp P (k + 1))), im (nD (nh (fp P) (fz hs) (k + 1)))]) ?_ (sq (drop (r := .im .none) (e1 := [im (tN P), im (tZ hs), ac ((pre ++ [k]).map fun k => nD (nh (fp P) (fz hs) (k + 1))), im (.int (fz hs (k + 1))), im (nD (fp P (k + 1))), im (nD (nh (fp P) (fz hs) (k + 1)))]) ?_) rfl))
      · rw [r_s_while]
        exact lp
      · simp [r_x_var, r_x_c, r_two, r_x_bin, r_t_of, r_t_not, r_t_and, r_t_or, r_x_and, r_x_or, r_x_not, r_x_if, r_x_chain, r_a_nil, r_a_cons, r_argsD, r_argsI, r_x_tup, r_x_lst, r_x_isi, r_x_cb, r_s_seq, r_s_nx, r_s_bk, r_s_ct, r_s_drop, r_s_ret, r_s_if, r_s_set, r_s_setF, r_x_call, r_t_yes, r_s_retN, r_i_seq, x_ix, runF, env0, finR, s_no, putA, okS, isAc, look2, lookR, frzR, lookAll, imAll, imR, isD, e_add, e_sub, e_lt, e_le, e_gt, e_ge, e_eq, e_ne, e_isnone, e_isT, e_isnotnone, e_isnotT, e_isB, e_isnotB, e_neB, e_eqB, c_len, c_tuple, c_list, c_int, r_x_app, kk]
        simpa using kk
  subst g2
  have ez : zipD (hs.map PyData.int) (P.map nD) = (List.range P.length).map fun k => PyData.tuple [.int (fz hs (k + 1)), nD (fp P (k + 1))] := by
    refine List.ext_getElem? fun i => ?_
    unfold zipD
    rw [List.getElem?_zipWith, List.getElem?_map, List.getElem?_map, List.getElem?_map]
    by_cases hi : i < P.length
    · have g := fp_get (P := P) (v := i + 1) (by omega) (by omega)
      have g2 := fz_get (P := hs) (v := i + 1) (by omega) (by omega)
      rw [Nat.add_sub_cancel] at g g2
      rw [List.getElem?_range hi, g, g2]
      rfl
    · rw [List.getElem?_eq_none (by omega), List.getElem?_eq_none (l := List.range P.length) (by rw [List.length_range]; omega)]
      rfl
  rw [← ez] at g1
  have ef : ((List.range P.length).map fun k => nD (nh (fp P) (fz hs) (k + 1))) = (planL (fp P) (fz hs) P.length).map nD := by
    unfold planL
    rw [List.map_map]
    rfl
  rw [ef] at g1
  refine runs rfl (sq (ifF (tnot (bang (bc q0))) rfl) (sq (setX (i := 2) (r := .ac []) (e1 := [im (tN P), im (tZ hs), none, none, none, none]) (e2 := [im (tN P), im (tZ hs), ac [], none, none, none]) (by simp [r_x_var, r_x_c, r_two, r_x_bin, r_t_of, r_t_not, r_t_and, r_t_or, r_x_and, r_x_or, r_x_not, r_x_if, r_x_chain, r_a_nil, r_a_cons, r_argsD, r_argsI, r_x_tup, r_x_lst, r_x_isi, r_x_cb, r_s_seq, r_s_nx, r_s_bk, r_s_ct, r_s_drop, r_s_ret, r_s_if, r_s_set, r_s_setF, r_x_call, r_t_yes, r_s_retN, r_i_seq, x_ix, runF, env0, finR, s_no, putA, okS, isAc, look2, lookR, frzR, lookAll, imAll, imR, isD, e_add, e_sub, e_lt, e_le, e_gt, e_ge, e_eq, e_ne, e_isnone, e_isT, e_isnotnone, e_isnotT, e_isB, e_isnotB, e_neB, e_eqB, c_len, c_tuple, c_list, c_int, okLen]) rfl rfl) (sq (sf (e1 := [im (tN P), im (tZ hs), ac [], none, none, none]) (ds := zipD (hs.map PyData.int) (P.map nD)) (by simp [r_x_var, r_x_c, r_two, r_x_bin, r_t_of, r_t_not, r_t_and, r_t_or, r_x_and, r_x_or, r_x_not, r_x_if, r_x_chain, r_a_nil, r_a_cons, r_argsD, r_argsI, r_x_tup, r_x_lst, r_x_isi, r_x_cb, r_s_seq, r_s_nx, r_s_bk, r_s_ct, r_s_drop, r_s_ret, r_s_if, r_s_set, r_s_setF, r_x_call, r_t_yes, r_s_retN, r_i_seq, x_ix, runF, env0, finR, s_no, putA, okS, isAc, look2, lookR, frzR, lookAll, imAll, imR, isD, e_add, e_sub, e_lt, e_le, e_gt, e_ge, e_eq, e_ne, e_isnone, e_isT, e_isnotnone, e_isnotT, e_isB, e_isnotB, e_neB, e_eqB, c_len, c_tuple, c_list, c_int, r_i_zip]) g1) (sr (ret (cbTv rfl)))))) rfl
end
end K58
namespace K58
open PySem PySem.Spec PyProof.Rows L2 DL
theorem cut1 {α : Type} (ds : List α) : DL.cutD ds (some 1) none = ds.drop 1 := by
  unfold DL.cutD
  have e1 : HT.sIx ds.length 0 (some 1) = min 1 ds.length := HT.sIx_nat ds.length 0 1
  rw [e1, HT.sIx_none]
  cases ds with
  | nil => rfl
  | cons d ds =>
    have e : min 1 (d :: ds).length = 1 := by simp
    rw [e, List.drop_succ_cons, List.drop_zero, List.length_cons, Nat.add_sub_cancel, List.take_length]
theorem maxI_ge : ∀ {l : List Int} {x : Int}, x ∈ l → x ≤ maxI l
  | [], _, h => by cases h
  | [a], x, h => by
    rw [List.mem_singleton.mp h]
    exact Int.le_refl _
  | a :: b :: r, x, h => by
    show x ≤ max a (maxI (b :: r))
    (rcases List.mem_cons.mp h with e | h)
    · omega
    · have := maxI_ge h
      omega
theorem maxI_mem : ∀ {l : List Int}, l ≠ [] → maxI l ∈ l
  | [], h => absurd rfl h
  | [a], _ => List.mem_cons_self
  | a :: b :: r, _ => by
    show max a (maxI (b :: r)) ∈ a :: b :: r
    have q := maxI_mem (l := b :: r) (by simp)
    by_cases h : a ≤ maxI (b :: r)
    · rw [show max a (maxI (b :: r)) = maxI (b :: r) by omega]
      exact List.mem_cons_of_mem _ q
    · rw [show max a (maxI (b :: r)) = a by omega]
      exact List.mem_cons_self
/-- the reads as ints -/
def rdI (b : Nat → Nat) (m : Nat) : List Int := (List.range (m + 1)).map fun v => (rd b v : Int)
theorem rdL_I (b : Nat → Nat) (m : Nat) : rdL b m = (rdI b m).map PyData.int := by
  unfold rdL rdI
  rw [List.map_map]
  rfl
theorem rdL_drop (b : Nat → Nat) (m : Nat) : (rdL b m).tail = (List.range m).map fun k => nD (rd b (k + 1)) := by
  unfold rdL
  rw [List.range_succ_eq_map, List.map_cons, List.tail_cons, List.map_map]
  rfl
def mx (b : Nat → Nat) (m : Nat) : Int := maxI (rdI b m)
theorem rd_mx {b : Nat → Nat} {m v : Nat} (h : v ≤ m) : (rd b v : Int) ≤ mx b m := maxI_ge (List.mem_map.mpr ⟨v, List.mem_range.mpr (by omega), rfl⟩)
theorem mx_le {b : Nat → Nat} {m : Nat} (hb : Dn b m) : mx b m ≤ m := by
  have q : mx b m ∈ rdI b m := maxI_mem (by
    unfold rdI
    simp)
  obtain ⟨v, hv, e⟩ := List.mem_map.mp q
  have := rd_le hb (v := v) (by have := List.mem_range.mp hv; omega)
  have := List.mem_range.mp hv
  omega
def hsOf (b : Nat → Nat) (m : Nat) : List Int := (List.range m).map fun k => mx b m + 1 - (rd b (k + 1) : Int)
theorem hsOf_len (b : Nat → Nat) (m : Nat) : (hsOf b m).length = m := by
  unfold hsOf
  (rw [List.length_map, List.length_range])
theorem hsOf_pos {b : Nat → Nat} {m : Nat} : ∀ x ∈ hsOf b m, 1 ≤ x := by
  intro x hx
  obtain ⟨k, hk, rfl⟩ := List.mem_map.mp hx
  have := rd_mx (b := b) (m := m) (v := k + 1) (by have := List.mem_range.mp hk; omega)
  omega
theorem hsOf_at {b : Nat → Nat} {m v : Nat} (h1 : 1 ≤ v) (h2 : v ≤ m) : fz (hsOf b m) v = mx b m + 1 - (rd b v : Int) := by
  unfold fz
  (rw [List.getD_eq_getElem?_getD])
  unfold hsOf
  rw [List.getElem?_map, List.getElem?_range (by omega)]
  show mx b m + 1 - (rd b (v - 1 + 1) : Int) = _
  rw [Nat.sub_add_cancel h1]
theorem nh_hsOf {p b : Nat → Nat} (hp : Par p) {m z : Nat} (h1 : 1 ≤ z) (h2 : z ≤ m) : nh p (fz (hsOf b m)) z = nh p (fun v => mx b m + 1 - (rd b v : Int)) z := by
  refine nh_congr fun u hu h0 => ?_
  have := up_lt hp hu
  rw [hsOf_at h1 h2, hsOf_at h0 (by omega)]
theorem maxA_T {b : Nat → Nat} {m : Nat} : c_maxA [.tuple (rdL b m)] = some (.im (.int (mx b m))) := by
  have e : rdI b m ≠ [] := by
    unfold rdI
    simp
  unfold c_maxA orC
  have e1 : c_max [.tuple (rdL b m)] = none := rfl
  rw [e1]
  show c_maxT [.tuple (rdL b m)] = _
  rw [rdL_I]
  show (match unI ((rdI b m).map PyData.int) with
    | some ns => (if ns.isEmpty = true then none else some (Rs.im (.int (maxI ns))))
    | none => none) = _
  rw [unI_ints]
  show (if (rdI b m).isEmpty = true then none else _) = _
  rw [if_neg (by rw [List.isEmpty_iff]; exact e)]
  rfl
theorem maxA_L {b : Nat → Nat} {m : Nat} : c_maxA [.list (rdL b m)] = some (.im (.int (mx b m))) := by
  have e : rdI b m ≠ [] := by
    unfold rdI
    simp
  unfold c_maxA orC
  have e1 : c_max [.list (rdL b m)] = some (.im (.int (mx b m))) := by
    rw [rdL_I]
    show (match unI ((rdI b m).map PyData.int) with
      | some ns => (if ns.isEmpty = true then none else some (Rs.im (.int (maxI ns))))
      | none => none) = _
    rw [unI_ints]
    show (if (rdI b m).isEmpty = true then none else _) = _
    rw [if_neg (by rw [List.isEmpty_iff]; exact e)]
    rfl
  rw [e1]
section
variable {P bs : List Nat} (hp : Par (fp P)) (hn : P.length ≤ 1000) (hl : bs.length = P.length) (hb : Bas (fp P) (fp bs) P.length)
include hp hn hl hb
theorem v_heights_of : F_heights_of [tN P, tN bs] = some (.im (tZ (hsOf (fp bs) P.length))) := by
  have q0 := v_is_bases hp hn hl hb
  have q1 := v_reads_by hp hn hl hb
  have m := maxA_T (b := fp bs) (m := P.length)
  have q : x_lc (i_seq (x_sl (x_var 2) (o_at (x_c (.int 1))) o_no)) (g_name 4) t_yes (x_bin p_sub (x_bin p_add (x_var 3) (x_c (.int 1))) (x_var 4)) [4] [im (tN P), im (tN bs), im (.tuple (rdL (fp bs) P.length)), im (.int (mx (fp bs) P.length)), none]
      = some (.ac ((hsOf (fp bs) P.length).map PyData.int), [im (tN P), im (tN bs), im (.tuple (rdL (fp bs) P.length)), im (.int (mx (fp bs) P.length)), none]) := by
    rw [x_lc_all (e1 := [im (tN P), im (tN bs), im (.tuple (rdL (fp bs) P.length)), im (.int (mx (fp bs) P.length)), none]) (ds := (List.range P.length).map fun k => nD (rd (fp bs) (k + 1))) (fun d => match d with
      | .int i => .int (mx (fp bs) P.length + 1 - i)
      | _ => .none) (by simp [r_x_var, r_x_c, r_two, r_x_bin, r_t_of, r_t_not, r_t_and, r_t_or, r_x_and, r_x_or, r_x_not, r_x_if, r_x_chain, r_a_nil, r_a_cons, r_argsD, r_argsI, r_x_tup, r_x_lst, r_x_isi, r_x_cb, r_s_seq, r_s_nx, r_s_bk, r_s_ct, r_s_drop, r_s_ret, r_s_if, r_s_set, r_s_setF, r_x_call, r_t_yes, r_s_retN, r_i_seq, x_ix, runF, env0, finR, s_no, putA, okS, isAc, look2, lookR, frzR, lookAll, imAll, imR, isD, e_add, e_sub, e_lt, e_le, e_gt, e_ge, e_eq, e_ne, e_isnone, e_isT, e_isnotnone, e_isnotT, e_isB, e_isnotB, e_neB, e_eqB, c_len, c_tuple, c_list, c_int, r_x_sl, r_o_at, r_o_no, sliced, cut1, rdL_drop]) rfl (by rw [List.length_map, List.length_range]; omega) fun d hd => ?_]
    · unfold hsOf
      (rw [List.map_map, List.map_map])
      rfl
    · obtain ⟨k, _, rfl⟩ := List.mem_map.mp hd
      refine ⟨[im (tN P), im (tN bs), im (.tuple (rdL (fp bs) P.length)), im (.int (mx (fp bs) P.length)), im (nD (rd (fp bs) (k + 1)))], .im (.int (mx (fp bs) P.length + 1 - (rd (fp bs) (k + 1) : Int))), [im (tN P), im (tN bs), im (.tuple (rdL (fp bs) P.length)), im (.int (mx (fp bs) P.length)), im (nD (rd (fp bs) (k + 1)))], rfl, by simp [r_x_var, r_x_c, r_two, r_x_bin, r_t_of, r_t_not, r_t_and, r_t_or, r_x_and, r_x_or, r_x_not, r_x_if, r_x_chain, r_a_nil, r_a_cons, r_argsD, r_argsI, r_x_tup, r_x_lst, r_x_isi, r_x_cb, r_s_seq, r_s_nx, r_s_bk, r_s_ct, r_s_drop, r_s_ret, r_s_if, r_s_set, r_s_setF, r_x_call, r_t_yes, r_s_retN, r_i_seq, x_ix, runF, env0, finR, s_no, putA, okS, isAc, look2, lookR, frzR, lookAll, imAll, imR, isD, e_add, e_sub, e_lt, e_le, e_gt, e_ge, e_eq, e_ne, e_isnone, e_isT, e_isnotnone, e_isnotT, e_isB, e_isnotB, e_neB, e_eqB, c_len, c_tuple, c_list, c_int, nD], rfl, rfl⟩
  refine runs rfl (sq (ifF (tnot (bang (bc q0))) rfl) (sq (setF (i := 2) (bc q1) rfl rfl) (sq (e1 := [im (tN P), im (tN bs), im (.tuple (rdL (fp bs) P.length)), im (.int (mx (fp bs) P.length)), none]) ?_ (sr (ret (cbT q)))))) rfl
  refine setF (i := 3) (r := .im (.int (mx (fp bs) P.length))) (e1 := [im (tN P), im (tN bs), im (.tuple (rdL (fp bs) P.length)), none, none]) ?_ rfl rfl
  simp [r_x_var, r_x_c, r_two, r_x_bin, r_t_of, r_t_not, r_t_and, r_t_or, r_x_and, r_x_or, r_x_not, r_x_if, r_x_chain, r_a_nil, r_a_cons, r_argsD, r_argsI, r_x_tup, r_x_lst, r_x_isi, r_x_cb, r_s_seq, r_s_nx, r_s_bk, r_s_ct, r_s_drop, r_s_ret, r_s_if, r_s_set, r_s_setF, r_x_call, r_t_yes, r_s_retN, r_i_seq, x_ix, runF, env0, finR, s_no, putA, okS, isAc, look2, lookR, frzR, lookAll, imAll, imR, isD, e_add, e_sub, e_lt, e_le, e_gt, e_ge, e_eq, e_ne, e_isnone, e_isT, e_isnotnone, e_isnotT, e_isB, e_isnotB, e_neB, e_eqB, c_len, c_tuple, c_list, c_int, m]
end
section
variable {bs : List Nat} (hb : Dn (fp bs) bs.length) (hn : bs.length ≤ 1000)
include hb hn
theorem v_law_heights : F__law_heights [tN bs] = some (.im (tZ (hsOf (fp bs) bs.length))) := by
  have q1 := v_law_reads hb hn
  have m := maxA_L (b := fp bs) (m := bs.length)
  have q : x_lc (i_seq (x_sl (x_var 1) (o_at (x_c (.int 1))) o_no)) (g_name 3) t_yes (x_bin p_sub (x_bin p_add (x_var 2) (x_c (.int 1))) (x_var 3)) [3] [im (tN bs), im (.list (rdL (fp bs) bs.length)), im (.int (mx (fp bs) bs.length)), none]
      = some (.ac ((hsOf (fp bs) bs.length).map PyData.int), [im (tN bs), im (.list (rdL (fp bs) bs.length)), im (.int (mx (fp bs) bs.length)), none]) := by
    rw [x_lc_all (e1 := [im (tN bs), im (.list (rdL (fp bs) bs.length)), im (.int (mx (fp bs) bs.length)), none]) (ds := (List.range bs.length).map fun k => nD (rd (fp bs) (k + 1))) (fun d => match d with
      | .int i => .int (mx (fp bs) bs.length + 1 - i)
      | _ => .none) (by simp [r_x_var, r_x_c, r_two, r_x_bin, r_t_of, r_t_not, r_t_and, r_t_or, r_x_and, r_x_or, r_x_not, r_x_if, r_x_chain, r_a_nil, r_a_cons, r_argsD, r_argsI, r_x_tup, r_x_lst, r_x_isi, r_x_cb, r_s_seq, r_s_nx, r_s_bk, r_s_ct, r_s_drop, r_s_ret, r_s_if, r_s_set, r_s_setF, r_x_call, r_t_yes, r_s_retN, r_i_seq, x_ix, runF, env0, finR, s_no, putA, okS, isAc, look2, lookR, frzR, lookAll, imAll, imR, isD, e_add, e_sub, e_lt, e_le, e_gt, e_ge, e_eq, e_ne, e_isnone, e_isT, e_isnotnone, e_isnotT, e_isB, e_isnotB, e_neB, e_eqB, c_len, c_tuple, c_list, c_int, r_x_sl, r_o_at, r_o_no, sliced, cut1, rdL_drop]) rfl (by rw [List.length_map, List.length_range]; omega) fun d hd => ?_]
    · unfold hsOf
      (rw [List.map_map, List.map_map])
      rfl
    · obtain ⟨k, _, rfl⟩ := List.mem_map.mp hd
      refine ⟨[im (tN bs), im (.list (rdL (fp bs) bs.length)), im (.int (mx (fp bs) bs.length)), im (nD (rd (fp bs) (k + 1)))], .im (.int (mx (fp bs) bs.length + 1 - (rd (fp bs) (k + 1) : Int))), [im (tN bs), im (.list (rdL (fp bs) bs.length)), im (.int (mx (fp bs) bs.length)), im (nD (rd (fp bs) (k + 1)))], rfl, by simp [r_x_var, r_x_c, r_two, r_x_bin, r_t_of, r_t_not, r_t_and, r_t_or, r_x_and, r_x_or, r_x_not, r_x_if, r_x_chain, r_a_nil, r_a_cons, r_argsD, r_argsI, r_x_tup, r_x_lst, r_x_isi, r_x_cb, r_s_seq, r_s_nx, r_s_bk, r_s_ct, r_s_drop, r_s_ret, r_s_if, r_s_set, r_s_setF, r_x_call, r_t_yes, r_s_retN, r_i_seq, x_ix, runF, env0, finR, s_no, putA, okS, isAc, look2, lookR, frzR, lookAll, imAll, imR, isD, e_add, e_sub, e_lt, e_le, e_gt, e_ge, e_eq, e_ne, e_isnone, e_isT, e_isnotnone, e_isnotT, e_isB, e_isnotB, e_neB, e_eqB, c_len, c_tuple, c_list, c_int, nD], rfl, rfl⟩
  refine runs rfl (sq (e1 := [im (tN bs), im (.list (rdL (fp bs) bs.length)), none, none]) ?_ (sq (e1 := [im (tN bs), im (.list (rdL (fp bs) bs.length)), im (.int (mx (fp bs) bs.length)), none]) ?_ (sr (ret (cbT q))))) rfl
  · exact setF (i := 1) (e1 := [im (tN bs), none, none, none]) (callA (aI (vI rfl) a0) rfl q1) rfl rfl
  · refine setF (i := 2) (r := .im (.int (mx (fp bs) bs.length))) (e1 := [im (tN bs), im (.list (rdL (fp bs) bs.length)), none, none]) ?_ rfl rfl
    simp [r_x_var, r_x_c, r_two, r_x_bin, r_t_of, r_t_not, r_t_and, r_t_or, r_x_and, r_x_or, r_x_not, r_x_if, r_x_chain, r_a_nil, r_a_cons, r_argsD, r_argsI, r_x_tup, r_x_lst, r_x_isi, r_x_cb, r_s_seq, r_s_nx, r_s_bk, r_s_ct, r_s_drop, r_s_ret, r_s_if, r_s_set, r_s_setF, r_x_call, r_t_yes, r_s_retN, r_i_seq, x_ix, runF, env0, finR, s_no, putA, okS, isAc, look2, lookR, frzR, lookAll, imAll, imR, isD, e_add, e_sub, e_lt, e_le, e_gt, e_ge, e_eq, e_ne, e_isnone, e_isT, e_isnotnone, e_isnotT, e_isB, e_isnotB, e_neB, e_eqB, c_len, c_tuple, c_list, c_int, m]
end
/-! records -/
section
variable {bs : List Nat} (hb : Dn (fp bs) bs.length) (hn : bs.length ≤ 1000) (X Y Z : PyData)
include hb hn
theorem rec_loop : ∀ (v n : Nat) (acc : List PyData), v < n → v ≤ bs.length → acc.length + v ≤ 10000 →
    whGo (t_of (x_bin p_ne (x_var 5) (x_c (.int 0)))) (s_seq (s_drop (x_app 4 (x_var 5))) (s_seq (s_setF 5 (x_ix (x_var 3) (x_bin p_sub (x_var 5) (x_c (.int 1))))) s_nx)) n [im X, im Y, im Z, im (tN bs), ac acc, im (.int (v : Int))]
      = some (.nx [im X, im Y, im Z, im (tN bs), ac (acc ++ (ch (fp bs) v).map nD), im (.int 0)]) := by
  intro v
  induction v using Nat.strongRecOn with
  | ind v ih =>
    intro n acc hv hl ha
    cases n with
    | zero => omega
    | succ n =>
      by_cases h0 : v = 0
      · subst h0
        simp [whGo, r_x_var, r_x_c, r_two, r_x_bin, r_t_of, r_t_not, r_t_and, r_t_or, r_x_and, r_x_or, r_x_not, r_x_if, r_x_chain, r_a_nil, r_a_cons, r_argsD, r_argsI, r_x_tup, r_x_lst, r_x_isi, r_x_cb, r_s_seq, r_s_nx, r_s_bk, r_s_ct, r_s_drop, r_s_ret, r_s_if, r_s_set, r_s_setF, r_x_call, r_t_yes, r_s_retN, r_i_seq, x_ix, runF, env0, finR, s_no, putA, okS, isAc, look2, lookR, frzR, lookAll, imAll, imR, isD, e_add, e_sub, e_lt, e_le, e_gt, e_ge, e_eq, e_ne, e_isnone, e_isT, e_isnotnone, e_isnotT, e_isB, e_isnotB, e_neB, e_eqB, c_len, c_tuple, c_list, c_int, ch_zero]
      · have h1 : 1 ≤ v := by omega
        have h2 := hb v h1 hl
        have q := ih (fp bs v) h2 n (acc ++ [nD v]) (by omega) (by omega) (by simp only [List.length_append, List.length_cons, List.length_nil]; omega)
        have k : okLen (acc.length + 1) = true := okLen_yes (by omega)
        simp only [nD] at q
        simp [whGo, r_x_var, r_x_c, r_two, r_x_bin, r_t_of, r_t_not, r_t_and, r_t_or, r_x_and, r_x_or, r_x_not, r_x_if, r_x_chain, r_a_nil, r_a_cons, r_argsD, r_argsI, r_x_tup, r_x_lst, r_x_isi, r_x_cb, r_s_seq, r_s_nx, r_s_bk, r_s_ct, r_s_drop, r_s_ret, r_s_if, r_s_set, r_s_setF, r_x_call, r_t_yes, r_s_retN, r_i_seq, x_ix, runF, env0, finR, s_no, putA, okS, isAc, look2, lookR, frzR, lookAll, imAll, imR, isD, e_add, e_sub, e_lt, e_le, e_gt, e_ge, e_eq, e_ne, e_isnone, e_isT, e_isnotnone, e_isnotT, e_isB, e_isnotB, e_neB, e_eqB, c_len, c_tuple, c_list, c_int, r_x_app, ix1 h1 hl, h0, k, q, ch_pos hb h1 hl, nD]
end
theorem planL_len (p : Nat → Nat) (h : Nat → Int) (n : Nat) : (planL p h n).length = n := by
  unfold planL
  (rw [List.length_map, List.length_range])
theorem planL_at {p : Nat → Nat} {h : Nat → Int} {n v : Nat} (h1 : 1 ≤ v) (h2 : v ≤ n) : fp (planL p h n) v = nh p h v := by
  unfold fp
  (rw [List.getD_eq_getElem?_getD])
  unfold planL
  rw [List.getElem?_map, List.getElem?_range (by omega)]
  show nh p h (v - 1 + 1) = _
  rw [Nat.sub_add_cancel h1]
theorem planL_bas {p : Nat → Nat} (hp : Par p) (h : Nat → Int) (n : Nat) : Bas p (fp (planL p h n)) n := fun z h1 h2 => by
  rw [planL_at h1 h2]
  exact nh_mem hp h h1
section
variable {P : List Nat} (hp : Par (fp P)) (hn : P.length ≤ 1000)
include hp hn
theorem v_records {hs : List Int} (hl : hs.length = P.length) (h1 : ∀ x ∈ hs, 1 ≤ x) {v : Nat} (hv : v ≤ P.length) : F_records_of [tN P, tZ hs, .int (v : Int)] = some (.im (tN (ch (fp (planL (fp P) (fz hs) P.length)) v))) := by
  have q0 := v_bases_by hp hn hl h1
  have pl := planL_len (fp P) (fz hs) P.length
  have dn : Dn (fp (planL (fp P) (fz hs) P.length)) (planL (fp P) (fz hs) P.length).length := by
    rw [pl]
    exact bas_dn hp (planL_bas hp (fz hs) P.length)
  have lp := rec_loop dn (by omega) (tN P) (tZ hs) (.int (v : Int)) v (v + 1) [] (by omega) (by omega) (by simp; omega)
  refine runs rfl (sq (setF (i := 3) (bc q0) rfl rfl) (sq (e1 := [im (tN P), im (tZ hs), im (.int (v : Int)), im (tN (planL (fp P) (fz hs) P.length)), none, none]) (ifF (e1 := [im (tN P), im (tZ hs), im (.int (v : Int)), im (tN (planL (fp P) (fz hs) P.length)), none, none]) ?_ rfl) (sq (setX (i := 4) (r := .ac []) (e1 := [im (tN P), im (tZ hs), im (.int (v : Int)), im (tN (planL (fp P) (fz hs) P.length)), none, none]) (e2 := [im (tN P), im (tZ hs), im (.int (v : Int)), im (tN (planL (fp P) (fz hs) P.length)), ac [], none]) (by simp [r_x_var, r_x_c, r_two, r_x_bin, r_t_of, r_t_not, r_t_and, r_t_or, r_x_and, r_x_or, r_x_not, r_x_if, r_x_chain, r_a_nil, r_a_cons, r_argsD, r_argsI, r_x_tup, r_x_lst, r_x_isi, r_x_cb, r_s_seq, r_s_nx, r_s_bk, r_s_ct, r_s_drop, r_s_ret, r_s_if, r_s_set, r_s_setF, r_x_call, r_t_yes, r_s_retN, r_i_seq, x_ix, runF, env0, finR, s_no, putA, okS, isAc, look2, lookR, frzR, lookAll, imAll, imR, isD, e_add, e_sub, e_lt, e_le, e_gt, e_ge, e_eq, e_ne, e_isnone, e_isT, e_isnotnone, e_isnotT, e_isB, e_isnotB, e_neB, e_eqB, c_len, c_tuple, c_list, c_int, okLen]) rfl rfl) (sq (setF (i := 5) (r := .im (.int (v : Int))) (vI rfl) rfl rfl) (sq (by rw [r_s_while]; exact lp) (sr (ret (cbTv rfl)))))))) rfl
  have c : ¬ P.length < v := by omega
  simp [r_x_var, r_x_c, r_two, r_x_bin, r_t_of, r_t_not, r_t_and, r_t_or, r_x_and, r_x_or, r_x_not, r_x_if, r_x_chain, r_a_nil, r_a_cons, r_argsD, r_argsI, r_x_tup, r_x_lst, r_x_isi, r_x_cb, r_s_seq, r_s_nx, r_s_bk, r_s_ct, r_s_drop, r_s_ret, r_s_if, r_s_set, r_s_setF, r_x_call, r_t_yes, r_s_retN, r_i_seq, x_ix, runF, env0, finR, s_no, putA, okS, isAc, look2, lookR, frzR, lookAll, imAll, imR, isD, e_add, e_sub, e_lt, e_le, e_gt, e_ge, e_eq, e_ne, e_isnone, e_isT, e_isnotnone, e_isnotT, e_isB, e_isnotB, e_neB, e_eqB, c_len, c_tuple, c_list, c_int, v_is_number, c]
end
end K58
namespace K58
open PySem PySem.Spec PyProof.Rows L2 DL
/-! ### the law's own defs -/
def elL (p : Nat → Nat) (m : Nat) : List PyData := (List.range (m + 1)).map fun v => lN (up p v)
theorem elL_len (p : Nat → Nat) (m : Nat) : (elL p m).length = m + 1 := by
  unfold elL
  (rw [List.length_map, List.length_range])
theorem elL_succ {p : Nat → Nat} (hp : Par p) (m : Nat) : elL p (m + 1) = elL p m ++ [lN (p (m + 1) :: up p (p (m + 1)))] := by
  unfold elL
  rw [List.range_succ, List.map_append, List.map_cons, List.map_nil, up_pos hp (v := m + 1) (by omega)]
theorem ixE {p : Nat → Nat} {m v : Nat} (h : v ≤ m) : p_ix (.list (elL p m)) (.int (v : Int)) = some (.im (lN (up p v))) := ixR (g := fun v => lN (up p v)) (by omega)
theorem ixE1 {p : Nat → Nat} {m k : Nat} (h : k + 1 ≤ m) : p_ix (.list (elL p m)) (.int ((k : Int) + 1)) = some (.im (lN (up p (k + 1)))) := ixE (v := k + 1) h
theorem ix2Z {P : List Int} {k : Nat} (h : k < P.length) : p_ix (tZ P) (.int (k : Int)) = some (.im (.int (fz P (k + 1)))) := by
  have q := ix1Z (P := P) (v := k + 1) (by omega) (by omega)
  rw [show (((k + 1 : Nat) : Int) - 1) = (k : Int) by omega] at q
  exact q
section
variable {P : List Nat} (hp : Par (fp P)) (hn : P.length ≤ 1000)
include hp hn
theorem v_elders : F__law_elders [tN P] = some (.ac (elL (fp P) P.length)) := by
  obtain ⟨e3, h1, s, h2⟩ := forGo_inv (γ := g_name 2) (S := [2]) (fb := s_drop (x_app 1 (x_bin p_add (x_lst (a_cons (x_var 2) a_nil)) (x_ix (x_var 1) (x_var 2))))) nD P (fun pre e => ∃ s, e = [im (tN P), ac (elL (fp P) pre.length), s]) [im (tN P), ac (elL (fp P) 0), none] ⟨none, rfl⟩ fun pre a post hk e he => by
    obtain ⟨s, rfl⟩ := he
    obtain ⟨ha, hl⟩ := at_pre hk
    have q := elL_succ hp pre.length
    have lt := hp (pre.length + 1) (by omega)
    have qi : p_ix (.list (elL (fp P) pre.length)) (.int (a : Int)) = some (.im (lN (up (fp P) a))) := ixE (by omega)
    refine ⟨rfl, [im (tN P), ac (elL (fp P) pre.length), im (nD a)], [im (tN P), ac (elL (fp P) (pre.length + 1)), im (nD a)], rfl, .inl (drop (r := .im .none) ?_), im (nD a), by simp⟩
    have k : (elL (fp P) pre.length).length ≤ 16777215 := by rw [elL_len]; omega
    have lu := up_len hp a
    have qa : p_add (.list [nD a]) (lN (up (fp P) a)) = some (.ac (nD a :: (up (fp P) a).map nD)) := e_cat (by simp only [List.length_cons, List.length_nil, List.length_map]; omega)
    rw [ha] at qi qa lu ⊢
    simp [r_x_var, r_x_c, r_two, r_x_bin, r_t_of, r_t_not, r_t_and, r_t_or, r_x_and, r_x_or, r_x_not, r_x_if, r_x_chain, r_a_nil, r_a_cons, r_argsD, r_argsI, r_x_tup, r_x_lst, r_x_isi, r_x_cb, r_s_seq, r_s_nx, r_s_bk, r_s_ct, r_s_drop, r_s_ret, r_s_if, r_s_set, r_s_setF, r_x_call, r_t_yes, r_s_retN, r_i_seq, x_ix, runF, env0, finR, s_no, putA, okS, isAc, look2, lookR, frzR, lookAll, imAll, imR, isD, e_add, e_sub, e_lt, e_le, e_gt, e_ge, e_eq, e_ne, e_isnone, e_isT, e_isnotnone, e_isnotT, e_isB, e_isnotB, e_neB, e_eqB, c_len, c_tuple, c_list, c_int, r_x_app, nD, k, okLen] at qi qa ⊢
    simp [r_x_var, r_x_c, r_two, r_x_bin, r_t_of, r_t_not, r_t_and, r_t_or, r_x_and, r_x_or, r_x_not, r_x_if, r_x_chain, r_a_nil, r_a_cons, r_argsD, r_argsI, r_x_tup, r_x_lst, r_x_isi, r_x_cb, r_s_seq, r_s_nx, r_s_bk, r_s_ct, r_s_drop, r_s_ret, r_s_if, r_s_set, r_s_setF, r_x_call, r_t_yes, r_s_retN, r_i_seq, x_ix, runF, env0, finR, s_no, putA, okS, isAc, look2, lookR, frzR, lookAll, imAll, imR, isD, e_add, e_sub, e_lt, e_le, e_gt, e_ge, e_eq, e_ne, e_isnone, e_isT, e_isnotnone, e_isnotT, e_isB, e_isnotB, e_neB, e_eqB, c_len, c_tuple, c_list, c_int, r_x_app, nD, k, qi, qa, q]
  subst h2
  exact runs rfl (sq (setX (i := 1) (r := .ac [lN []]) (e1 := [im (tN P), none, none]) (e2 := [im (tN P), ac (elL (fp P) 0), none]) (by simp [r_x_var, r_x_c, r_two, r_x_bin, r_t_of, r_t_not, r_t_and, r_t_or, r_x_and, r_x_or, r_x_not, r_x_if, r_x_chain, r_a_nil, r_a_cons, r_argsD, r_argsI, r_x_tup, r_x_lst, r_x_isi, r_x_cb, r_s_seq, r_s_nx, r_s_bk, r_s_ct, r_s_drop, r_s_ret, r_s_if, r_s_set, r_s_setF, r_x_call, r_t_yes, r_s_retN, r_i_seq, x_ix, runF, env0, finR, s_no, putA, okS, isAc, look2, lookR, frzR, lookAll, imAll, imR, isD, e_add, e_sub, e_lt, e_le, e_gt, e_ge, e_eq, e_ne, e_isnone, e_isT, e_isnotnone, e_isnotT, e_isB, e_isnotB, e_neB, e_eqB, c_len, c_tuple, c_list, c_int, okLen]) rfl rfl) (sq (sf (e1 := [im (tN P), ac (elL (fp P) 0), none]) (ds := P.map nD) (by simp [r_x_var, r_x_c, r_two, r_x_bin, r_t_of, r_t_not, r_t_and, r_t_or, r_x_and, r_x_or, r_x_not, r_x_if, r_x_chain, r_a_nil, r_a_cons, r_argsD, r_argsI, r_x_tup, r_x_lst, r_x_isi, r_x_cb, r_s_seq, r_s_nx, r_s_bk, r_s_ct, r_s_drop, r_s_ret, r_s_if, r_s_set, r_s_setF, r_x_call, r_t_yes, r_s_retN, r_i_seq, x_ix, runF, env0, finR, s_no, putA, okS, isAc, look2, lookR, frzR, lookAll, imAll, imR, isD, e_add, e_sub, e_lt, e_le, e_gt, e_ge, e_eq, e_ne, e_isnone, e_isT, e_isnotnone, e_isnotT, e_isB, e_isnotB, e_neB, e_eqB, c_len, c_tuple, c_list, c_int]) h1) (sr (ret (r := .br 1) rfl)))) rfl
omit hn in
theorem v_higher {n : Nat} (hn : n ≤ 1000) {hs : List Int} (hl : hs.length = n) : F__law_higher [tZ hs, .list (elL (fp P) n)] = some (.im (tN (planL (fp P) (fz hs) n))) := by
  obtain ⟨e3, g1, a, b, c, g2⟩ := forGo_inv (γ := g_name 3) (S := [3]) (fb := s_seq (s_setF 4 (x_c (.int 0))) (s_seq (s_for (i_seq (x_rev (x_ix (x_var 1) (x_var 3)))) (g_name 5) [5]
      (s_if (t_and (t_of (x_bin p_gt (x_var 5) (x_c (.int 0)))) (t_of (x_bin p_gt (x_ix (x_var 0) (x_bin p_sub (x_var 5) (x_c (.int 1)))) (x_ix (x_var 0) (x_bin p_sub (x_var 3) (x_c (.int 1))))))) (s_setF 4 (x_var 5)) s_nx)) (s_seq (s_drop (x_app 2 (x_var 4))) s_nx)))
    (fun k => nD (k + 1)) (List.range n) (fun pre e => ∃ a b c, e = [im (tZ hs), im (.list (elL (fp P) n)), ac (pre.map fun k => nD (nh (fp P) (fz hs) (k + 1))), a, b, c]) [im (tZ hs), im (.list (elL (fp P) n)), ac [], none, none, none] ⟨_, _, _, rfl⟩ fun pre k post hk e he => by
      obtain ⟨a, b, c, rfl⟩ := he
      have lk : k < n := List.mem_range.mp (by rw [hk]; simp)
      have lpre : pre.length ≤ n := by
        have := congrArg List.length hk
        rw [List.length_range, List.length_append] at this
        omega
      have qe := ixE1 (p := fp P) (m := n) (k := k) (by omega)
      have qk := ix2Z (P := hs) (k := k) (by omega)
      generalize hA : (pre.map fun k => nD (nh (fp P) (fz hs) (k + 1))) = A
      obtain ⟨e4, i1, s, i2⟩ := forGo_inv (γ := g_name 5) (S := [5]) (fb := s_if (t_and (t_of (x_bin p_gt (x_var 5) (x_c (.int 0)))) (t_of (x_bin p_gt (x_ix (x_var 0) (x_bin p_sub (x_var 5) (x_c (.int 1)))) (x_ix (x_var 0) (x_bin p_sub (x_var 3) (x_c (.int 1))))))) (s_setF 4 (x_var 5)) s_nx)
        nD (up (fp P) (k + 1)).reverse (fun pr e => ∃ s, e = [im (tZ hs), im (.list (elL (fp P) n)), ac A, im (nD (k + 1)), im (nD (pr.foldl (fun a u => if 0 < u ∧ fz hs (k + 1) < fz hs u then u else a) 0)), s]) [im (tZ hs), im (.list (elL (fp P) n)), ac A, im (nD (k + 1)), im (nD 0), c] ⟨c, rfl⟩ fun pr u po hu e he => by
          obtain ⟨s, rfl⟩ := he
          have mu : u ∈ up (fp P) (k + 1) := List.mem_reverse.mp (by rw [hu]; simp)
          have lu := up_lt hp mu
          generalize hF : pr.foldl (fun a u => if 0 < u ∧ fz hs (k + 1) < fz hs u then u else a) 0 = F0
          refine ⟨rfl, [im (tZ hs), im (.list (elL (fp P) n)), ac A, im (nD (k + 1)), im (nD F0), im (nD u)], [im (tZ hs), im (.list (elL (fp P) n)), ac A, im (nD (k + 1)), im (nD (if 0 < u ∧ fz hs (k + 1) < fz hs u then u else F0)), im (nD u)], rfl, .inl ?_, im (nD u), by simp [hF]⟩
          by_cases c1 : 0 < u
          · have qu := ix1Z (P := hs) (v := u) (by omega) (by omega)
            by_cases c2 : fz hs (k + 1) < fz hs u
            · rw [if_pos ⟨c1, c2⟩]
              refine ifT (e1 := [im (tZ hs), im (.list (elL (fp P) n)), ac A, im (nD (k + 1)), im (nD F0), im (nD u)]) ?_ (setF (r := .im (nD u)) (vI rfl) rfl rfl)
              simp [r_x_var, r_x_c, r_two, r_x_bin, r_t_of, r_t_not, r_t_and, r_t_or, r_x_and, r_x_or, r_x_not, r_x_if, r_x_chain, r_a_nil, r_a_cons, r_argsD, r_argsI, r_x_tup, r_x_lst, r_x_isi, r_x_cb, r_s_seq, r_s_nx, r_s_bk, r_s_ct, r_s_drop, r_s_ret, r_s_if, r_s_set, r_s_setF, r_x_call, r_t_yes, r_s_retN, r_i_seq, x_ix, runF, env0, finR, s_no, putA, okS, isAc, look2, lookR, frzR, lookAll, imAll, imR, isD, e_add, e_sub, e_lt, e_le, e_gt, e_ge, e_eq, e_ne, e_isnone, e_isT, e_isnotnone, e_isnotT, e_isB, e_isnotB, e_neB, e_eqB, c_len, c_tuple, c_list, c_int, nD, qu, qk, c1, c2]
            · rw [if_neg fun z => c2 z.2]
              refine ifF (e1 := [im (tZ hs), im (.list (elL (fp P) n)), ac A, im (nD (k + 1)), im (nD F0), im (nD u)]) ?_ rfl
              simp [r_x_var, r_x_c, r_two, r_x_bin, r_t_of, r_t_not, r_t_and, r_t_or, r_x_and, r_x_or, r_x_not, r_x_if, r_x_chain, r_a_nil, r_a_cons, r_argsD, r_argsI, r_x_tup, r_x_lst, r_x_isi, r_x_cb, r_s_seq, r_s_nx, r_s_bk, r_s_ct, r_s_drop, r_s_ret, r_s_if, r_s_set, r_s_setF, r_x_call, r_t_yes, r_s_retN, r_i_seq, x_ix, runF, env0, finR, s_no, putA, okS, isAc, look2, lookR, frzR, lookAll, imAll, imR, isD, e_add, e_sub, e_lt, e_le, e_gt, e_ge, e_eq, e_ne, e_isnone, e_isT, e_isnotnone, e_isnotT, e_isB, e_isnotB, e_neB, e_eqB, c_len, c_tuple, c_list, c_int, nD, qu, qk, c1, c2]
          · rw [if_neg fun z => c1 z.1]
            refine ifF (e1 := [im (tZ hs), im (.list (elL (fp P) n)), ac A, im (nD (k + 1)), im (nD F0), im (nD u)]) ?_ rfl
            simp [r_x_var, r_x_c, r_two, r_x_bin, r_t_of, r_t_not, r_t_and, r_t_or, r_x_and, r_x_or, r_x_not, r_x_if, r_x_chain, r_a_nil, r_a_cons, r_argsD, r_argsI, r_x_tup, r_x_lst, r_x_isi, r_x_cb, r_s_seq, r_s_nx, r_s_bk, r_s_ct, r_s_drop, r_s_ret, r_s_if, r_s_set, r_s_setF, r_x_call, r_t_yes, r_s_retN, r_i_seq, x_ix, runF, env0, finR, s_no, putA, okS, isAc, look2, lookR, frzR, lookAll, imAll, imR, isD, e_add, e_sub, e_lt, e_le, e_gt, e_ge, e_eq, e_ne, e_isnone, e_isT, e_isnotnone, e_isnotT, e_isB, e_isnotB, e_neB, e_eqB, c_len, c_tuple, c_list, c_int, nD, c1]
      subst i2
      have ef : (up (fp P) (k + 1)).reverse.foldl (fun a u => if 0 < u ∧ fz hs (k + 1) < fz hs u then u else a) 0 = nh (fp P) (fz hs) (k + 1) := by
        rw [List.foldl_reverse]
        rfl
      rw [ef] at i1
      have kk : okLen (A.length + 1) = true := okLen_yes (by rw [← hA, List.length_map]; omega)
      refine ⟨rfl, [im (tZ hs), im (.list (elL (fp P) n)), ac A, im (nD (k + 1)), b, c], [im (tZ hs), im (.list (elL (fp P) n)), ac (A ++ [nD (nh (fp P) (fz hs) (k + 1))]), im (nD (k + 1)), im (nD (nh (fp P) (fz hs) (k + 1))), s], rfl, .inl ?_, _, _, _, by rw [← hA, List.map_append]; rfl⟩
      refine sq (setF (r := .im (.int 0)) (e1 := [im (tZ hs), im (.list (elL (fp P) n)), ac A, im (nD (k + 1)), b, c]) rfl rfl rfl) (sq (sf (ds := (up (fp P) (k + 1)).reverse.map nD) (e1 := [im (tZ hs), im (.list (elL (fp P) n)), ac A, im (nD (k + 1)), im (nD 0), c]) ?_ i1) (sq (drop (r := .im .none) ?_) rfl))
      · simp [r_x_var, r_x_c, r_two, r_x_bin, r_t_of, r_t_not, r_t_and, r_t_or, r_x_and, r_x_or, r_x_not, r_x_if, r_x_chain, r_a_nil, r_a_cons, r_argsD, r_argsI, r_x_tup, r_x_lst, r_x_isi, r_x_cb, r_s_seq, r_s_nx, r_s_bk, r_s_ct, r_s_drop, r_s_ret, r_s_if, r_s_set, r_s_setF, r_x_call, r_t_yes, r_s_retN, r_i_seq, x_ix, runF, env0, finR, s_no, putA, okS, isAc, look2, lookR, frzR, lookAll, imAll, imR, isD, e_add, e_sub, e_lt, e_le, e_gt, e_ge, e_eq, e_ne, e_isnone, e_isT, e_isnotnone, e_isnotT, e_isB, e_isnotB, e_neB, e_eqB, c_len, c_tuple, c_list, c_int, nD, r_x_rev, qe]
      · simp [r_x_var, r_x_c, r_two, r_x_bin, r_t_of, r_t_not, r_t_and, r_t_or, r_x_and, r_x_or, r_x_not, r_x_if, r_x_chain, r_a_nil, r_a_cons, r_argsD, r_argsI, r_x_tup, r_x_lst, r_x_isi, r_x_cb, r_s_seq, r_s_nx, r_s_bk, r_s_ct, r_s_drop, r_s_ret, r_s_if, r_s_set, r_s_setF, r_x_call, r_t_yes, r_s_retN, r_i_seq, x_ix, runF, env0, finR, s_no, putA, okS, isAc, look2, lookR, frzR, lookAll, imAll, imR, isD, e_add, e_sub, e_lt, e_le, e_gt, e_ge, e_eq, e_ne, e_isnone, e_isT, e_isnotnone, e_isnotT, e_isB, e_isnotB, e_neB, e_eqB, c_len, c_tuple, c_list, c_int, r_x_app, kk]
  subst g2
  have ef : ((List.range n).map fun k => nD (nh (fp P) (fz hs) (k + 1))) = (planL (fp P) (fz hs) n).map nD := by
    unfold planL
    rw [List.map_map]
    rfl
  rw [ef] at g1
  refine runs rfl (sq (setX (i := 2) (r := .ac []) (e1 := [im (tZ hs), im (.list (elL (fp P) n)), none, none, none, none]) (e2 := [im (tZ hs), im (.list (elL (fp P) n)), ac [], none, none, none]) (by simp [r_x_var, r_x_c, r_two, r_x_bin, r_t_of, r_t_not, r_t_and, r_t_or, r_x_and, r_x_or, r_x_not, r_x_if, r_x_chain, r_a_nil, r_a_cons, r_argsD, r_argsI, r_x_tup, r_x_lst, r_x_isi, r_x_cb, r_s_seq, r_s_nx, r_s_bk, r_s_ct, r_s_drop, r_s_ret, r_s_if, r_s_set, r_s_setF, r_x_call, r_t_yes, r_s_retN, r_i_seq, x_ix, runF, env0, finR, s_no, putA, okS, isAc, look2, lookR, frzR, lookAll, imAll, imR, isD, e_add, e_sub, e_lt, e_le, e_gt, e_ge, e_eq, e_ne, e_isnone, e_isT, e_isnotnone, e_isnotT, e_isB, e_isnotB, e_neB, e_eqB, c_len, c_tuple, c_list, c_int, okLen]) rfl rfl) (sq (sf (e1 := [im (tZ hs), im (.list (elL (fp P) n)), ac [], none, none, none]) (i_rng2_at (e1 := [im (tZ hs), im (.list (elL (fp P) n)), ac [], none, none, none]) rfl (by simp [r_x_var, r_x_c, r_two, r_x_bin, r_t_of, r_t_not, r_t_and, r_t_or, r_x_and, r_x_or, r_x_not, r_x_if, r_x_chain, r_a_nil, r_a_cons, r_argsD, r_argsI, r_x_tup, r_x_lst, r_x_isi, r_x_cb, r_s_seq, r_s_nx, r_s_bk, r_s_ct, r_s_drop, r_s_ret, r_s_if, r_s_set, r_s_setF, r_x_call, r_t_yes, r_s_retN, r_i_seq, x_ix, runF, env0, finR, s_no, putA, okS, isAc, look2, lookR, frzR, lookAll, imAll, imR, isD, e_add, e_sub, e_lt, e_le, e_gt, e_ge, e_eq, e_ne, e_isnone, e_isT, e_isnotnone, e_isnotT, e_isB, e_isnotB, e_neB, e_eqB, c_len, c_tuple, c_list, c_int, elL_len]) (by omega)) g1) (sr (ret (cbTv rfl))))) rfl
end
end K58
namespace K58
open PySem PySem.Spec PyProof.Rows L2 DL
/-- the law's own look for a crossing -/
def crsB (p b : Nat → Nat) (n : Nat) : Option Rs := (List.range n).findSome? fun k => ((up p (k + 1)).reverse.drop 1).findSome? fun v => if b (k + 1) ∈ up p v ∧ b (k + 1) ≠ b v ∧ b (k + 1) ∉ up p (b v) then some (.im (.tuple [nD v, nD (k + 1)])) else none
section
variable {p b : Nat → Nat} (hp : Par p) {n : Nat} (hb : Bas p b n)
include hp hb
theorem way_eq {z : Nat} (h1 : 1 ≤ z) : way p z = (up p z).reverse.drop 1 ++ [z] ∧ ∀ v ∈ (up p z).reverse.drop 1, 1 ≤ v ∧ v ∈ up p z := by
  obtain ⟨l, e, h⟩ := up_tail hp h1
  have e2 : (up p z).reverse.drop 1 = l.reverse := by
    rw [e, List.reverse_append]
    rfl
  refine ⟨?_, fun v m => ?_⟩
  · unfold way
    rw [e2, List.reverse_cons, e, List.reverse_append, List.filter_append, List.filter_append]
    have f1 : ([0] : List Nat).reverse.filter (fun u => decide (0 < u)) = [] := rfl
    have f2 : l.reverse.filter (fun u => decide (0 < u)) = l.reverse := List.filter_eq_self.mpr fun u m => decide_eq_true (by
      have := h u (List.mem_reverse.mp m)
      omega)
    have f3 : [z].filter (fun u => decide (0 < u)) = [z] := List.filter_eq_self.mpr fun u m => decide_eq_true (by
      have := List.mem_singleton.mp m
      omega)
    rw [f1, f2, f3, List.nil_append]
  · rw [e2] at m
    have m := List.mem_reverse.mp m
    exact ⟨h v m, by rw [e]; exact List.mem_append_left _ m⟩
theorem crs_eq : crsA p b n = crsB p b n := by
  refine findSome_congr fun k hk => ?_
  have lk := List.mem_range.mp hk
  obtain ⟨e, h⟩ := way_eq hp hb (z := k + 1) (by omega)
  rw [e, List.findSome?_append]
  have c : (([k + 1] : List Nat).findSome? fun v => if b (k + 1) < v ∧ b v < b (k + 1) then some (Rs.im (.tuple [nD v, nD (k + 1)])) else none) = none := by
    rw [List.findSome?_cons]
    have : ¬ (b (k + 1) < k + 1 ∧ b (k + 1) < b (k + 1)) := by omega
    rw [if_neg this]
    rfl
  rw [c, Option.or_none]
  refine findSome_congr fun v m => ?_
  obtain ⟨v1, v2⟩ := h v m
  have mz := hb (k + 1) (by omega) (by omega)
  have lv := up_lt hp v2
  have mv := hb v v1 (by omega)
  have iff1 : (b (k + 1) < v ∧ b v < b (k + 1)) ↔ (b (k + 1) ∈ up p v ∧ b (k + 1) ≠ b v ∧ b (k + 1) ∉ up p (b v)) := by
    constructor
    · rintro ⟨a1, a2⟩
      refine ⟨up_chain hp v2 mz a1, by omega, fun z => ?_⟩
      have := up_lt hp z
      omega
    · rintro ⟨a1, a2, a3⟩
      refine ⟨up_lt hp a1, ?_⟩
      rcases Nat.lt_trichotomy (b v) (b (k + 1)) with c | c | c
      · exact c
      · exact absurd c.symm a2
      · exact absurd (up_chain hp mv a1 c) a3
  by_cases c : b (k + 1) < v ∧ b v < b (k + 1)
  · rw [if_pos c, if_pos (iff1.mp c)]
  · rw [if_neg c, if_neg fun z => c (iff1.mpr z)]
theorem crs_free : crsA p b n = none ↔ Free p b n := by
  unfold crsA Free
  rw [List.findSome?_eq_none_iff]
  constructor
  · intro h z h1 h2 v hv l
    have q := h (z - 1) (List.mem_range.mpr (by omega))
    rw [Nat.sub_add_cancel h1] at q
    rw [List.findSome?_eq_none_iff] at q
    have lv := up_lt hp hv
    have m : v ∈ way p z := by
      unfold way
      rw [List.mem_filter, List.mem_reverse, List.mem_cons]
      exact ⟨.inr hv, decide_eq_true (by omega)⟩
    have q := q v m
    by_cases c : b z < v ∧ b v < b z
    · rw [if_pos c] at q
      cases q
    · omega
  · intro h k hk
    rw [List.findSome?_eq_none_iff]
    intro v hv
    obtain ⟨v0, v1⟩ := way_mem hp hv
    have lk := List.mem_range.mp hk
    rw [if_neg]
    rintro ⟨a1, a2⟩
    rcases v1 with e | m
    · rw [e] at a2
      omega
    · have := h (k + 1) (by omega) (by omega) v m a1
      omega
end
section
variable {P bs : List Nat} (hp : Par (fp P)) (hn : P.length ≤ 1000) (hl : bs.length = P.length) (hb : Bas (fp P) (fp bs) P.length)
include hp hn hl hb
theorem v_law_crossing : F__law_crossing [.list (elL (fp P) P.length), tN bs] = some (orN (crsB (fp P) (fp bs) P.length)) := by
  generalize hE : elL (fp P) P.length = EL
  have lE : EL.length = P.length + 1 := by rw [← hE, elL_len]
  have main := forGo_some (γ := g_name 2) (S := [2]) (fb := s_for (i_seq (x_sl (x_rev (x_ix (x_var 0) (x_var 2))) (o_at (x_c (.int 1))) o_no)) (g_name 3) [3]
    (s_seq (s_setF 4 (x_ix (x_var 1) (x_bin p_sub (x_var 2) (x_c (.int 1))))) (s_seq (s_if (t_and (t_of (x_bin p_in (x_var 4) (x_ix (x_var 0) (x_var 3)))) (t_and (t_of (x_bin p_ne (x_var 4) (x_ix (x_var 1) (x_bin p_sub (x_var 3) (x_c (.int 1)))))) (t_of (x_bin p_notin (x_var 4) (x_ix (x_var 0) (x_ix (x_var 1) (x_bin p_sub (x_var 3) (x_c (.int 1)))))))))
      (s_ret (x_tup (a_cons (x_var 3) (a_cons (x_var 2) a_nil)))) s_nx) s_nx)))
    (fun e => ∃ a b c, e = [im (.list EL), im (tN bs), a, b, c]) (fun k => nD (k + 1)) (fun k => ((up (fp P) (k + 1)).reverse.drop 1).findSome? fun v => if fp bs (k + 1) ∈ up (fp P) v ∧ fp bs (k + 1) ≠ fp bs v ∧ fp bs (k + 1) ∉ up (fp P) (fp bs v) then some (.im (.tuple [nD v, nD (k + 1)])) else none)
    (List.range P.length) [im (.list EL), im (tN bs), none, none, none] ⟨none, none, none, rfl⟩ fun k hk e he => by
      obtain ⟨a, b, c, rfl⟩ := he
      have lk := List.mem_range.mp hk
      have qe := ixE1 (p := fp P) (m := P.length) (k := k) (by omega)
      rw [hE] at qe
      have qb := ix2 (P := bs) (k := k) (by omega)
      refine ⟨rfl, [im (.list EL), im (tN bs), im (nD (k + 1)), b, c], rfl, ?_⟩
      have inner := forGo_some (γ := g_name 3) (S := [3]) (fb := s_seq (s_setF 4 (x_ix (x_var 1) (x_bin p_sub (x_var 2) (x_c (.int 1))))) (s_seq (s_if (t_and (t_of (x_bin p_in (x_var 4) (x_ix (x_var 0) (x_var 3)))) (t_and (t_of (x_bin p_ne (x_var 4) (x_ix (x_var 1) (x_bin p_sub (x_var 3) (x_c (.int 1)))))) (t_of (x_bin p_notin (x_var 4) (x_ix (x_var 0) (x_ix (x_var 1) (x_bin p_sub (x_var 3) (x_c (.int 1)))))))))
          (s_ret (x_tup (a_cons (x_var 3) (a_cons (x_var 2) a_nil)))) s_nx) s_nx))
        (fun e => ∃ b c, e = [im (.list EL), im (tN bs), im (nD (k + 1)), b, c]) nD (fun v => if fp bs (k + 1) ∈ up (fp P) v ∧ fp bs (k + 1) ≠ fp bs v ∧ fp bs (k + 1) ∉ up (fp P) (fp bs v) then some (.im (.tuple [nD v, nD (k + 1)])) else none) ((up (fp P) (k + 1)).reverse.drop 1) [im (.list EL), im (tN bs), im (nD (k + 1)), b, c] ⟨b, c, rfl⟩ fun v hv e he => by
          obtain ⟨b, c, rfl⟩ := he
          obtain ⟨v0, v1⟩ := (way_eq hp hb (z := k + 1) (by omega)).2 v hv
          have lv := up_lt hp v1
          have mv := hb v v0 (by omega)
          have lb := up_lt hp mv
          have q1 := ix1 (P := bs) (v := v) (by omega) (by omega)
          have q2 := ixE (p := fp P) (m := P.length) (v := v) (by omega)
          have q3 := ixE (p := fp P) (m := P.length) (v := fp bs v) (by omega)
          rw [hE] at q2 q3
          have q4 := e_inN (fp bs (k + 1)) (up (fp P) v)
          have q5 := e_notinN (fp bs (k + 1)) (up (fp P) (fp bs v))
          refine ⟨rfl, [im (.list EL), im (tN bs), im (nD (k + 1)), im (nD v), c], rfl, ?_⟩
          have st : s_setF 4 (x_ix (x_var 1) (x_bin p_sub (x_var 2) (x_c (.int 1)))) [im (.list EL), im (tN bs), im (nD (k + 1)), im (nD v), c] = some (.nx [im (.list EL), im (tN bs), im (nD (k + 1)), im (nD v), im (nD (fp bs (k + 1)))]) := by
            refine setF (d := nD (fp bs (k + 1))) (r := .im (nD (fp bs (k + 1)))) (e1 := [im (.list EL), im (tN bs), im (nD (k + 1)), im (nD v), c]) ?_ rfl rfl
            simp [r_x_var, r_x_c, r_two, r_x_bin, r_t_of, r_t_not, r_t_and, r_t_or, r_x_and, r_x_or, r_x_not, r_x_if, r_x_chain, r_a_nil, r_a_cons, r_argsD, r_argsI, r_x_tup, r_x_lst, r_x_isi, r_x_cb, r_s_seq, r_s_nx, r_s_bk, r_s_ct, r_s_drop, r_s_ret, r_s_if, r_s_set, r_s_setF, r_x_call, r_t_yes, r_s_retN, r_i_seq, x_ix, runF, env0, finR, s_no, putA, okS, isAc, look2, lookR, frzR, lookAll, imAll, imR, isD, e_add, e_sub, e_lt, e_le, e_gt, e_ge, e_eq, e_ne, e_isnone, e_isT, e_isnotnone, e_isnotT, e_isB, e_isnotB, e_neB, e_eqB, c_len, c_tuple, c_list, c_int, nD, qb]
          generalize hV : ([im (.list EL), im (tN bs), im (nD (k + 1)), im (nD v), im (nD (fp bs (k + 1)))] : Ev) = V at st
          have h1 : t_of (x_bin p_in (x_var 4) (x_ix (x_var 0) (x_var 3))) V = some (decide (fp bs (k + 1) ∈ up (fp P) v), V) := by
            rw [← hV]
            simp [r_x_var, r_x_c, r_two, r_x_bin, r_t_of, r_t_not, r_t_and, r_t_or, r_x_and, r_x_or, r_x_not, r_x_if, r_x_chain, r_a_nil, r_a_cons, r_argsD, r_argsI, r_x_tup, r_x_lst, r_x_isi, r_x_cb, r_s_seq, r_s_nx, r_s_bk, r_s_ct, r_s_drop, r_s_ret, r_s_if, r_s_set, r_s_setF, r_x_call, r_t_yes, r_s_retN, r_i_seq, x_ix, runF, env0, finR, s_no, putA, okS, isAc, look2, lookR, frzR, lookAll, imAll, imR, isD, e_add, e_sub, e_lt, e_le, e_gt, e_ge, e_eq, e_ne, e_isnone, e_isT, e_isnotnone, e_isnotT, e_isB, e_isnotB, e_neB, e_eqB, c_len, c_tuple, c_list, c_int, nD, q2, q4]
          have h2 : t_of (x_bin p_ne (x_var 4) (x_ix (x_var 1) (x_bin p_sub (x_var 3) (x_c (.int 1))))) V = some (!decide (fp bs (k + 1) = fp bs v), V) := by
            rw [← hV]
            simp [r_x_var, r_x_c, r_two, r_x_bin, r_t_of, r_t_not, r_t_and, r_t_or, r_x_and, r_x_or, r_x_not, r_x_if, r_x_chain, r_a_nil, r_a_cons, r_argsD, r_argsI, r_x_tup, r_x_lst, r_x_isi, r_x_cb, r_s_seq, r_s_nx, r_s_bk, r_s_ct, r_s_drop, r_s_ret, r_s_if, r_s_set, r_s_setF, r_x_call, r_t_yes, r_s_retN, r_i_seq, x_ix, runF, env0, finR, s_no, putA, okS, isAc, look2, lookR, frzR, lookAll, imAll, imR, isD, e_add, e_sub, e_lt, e_le, e_gt, e_ge, e_eq, e_ne, e_isnone, e_isT, e_isnotnone, e_isnotT, e_isB, e_isnotB, e_neB, e_eqB, c_len, c_tuple, c_list, c_int, nD, q1]
            omega
          have h3 : t_of (x_bin p_notin (x_var 4) (x_ix (x_var 0) (x_ix (x_var 1) (x_bin p_sub (x_var 3) (x_c (.int 1)))))) V = some (!decide (fp bs (k + 1) ∈ up (fp P) (fp bs v)), V) := by
            rw [← hV]
            simp [r_x_var, r_x_c, r_two, r_x_bin, r_t_of, r_t_not, r_t_and, r_t_or, r_x_and, r_x_or, r_x_not, r_x_if, r_x_chain, r_a_nil, r_a_cons, r_argsD, r_argsI, r_x_tup, r_x_lst, r_x_isi, r_x_cb, r_s_seq, r_s_nx, r_s_bk, r_s_ct, r_s_drop, r_s_ret, r_s_if, r_s_set, r_s_setF, r_x_call, r_t_yes, r_s_retN, r_i_seq, x_ix, runF, env0, finR, s_no, putA, okS, isAc, look2, lookR, frzR, lookAll, imAll, imR, isD, e_add, e_sub, e_lt, e_le, e_gt, e_ge, e_eq, e_ne, e_isnone, e_isT, e_isnotnone, e_isnotT, e_isB, e_isnotB, e_neB, e_eqB, c_len, c_tuple, c_list, c_int, nD, q1, q3, q5]
          have jV : ∃ b c, V = [im (.list EL), im (tN bs), im (nD (k + 1)), b, c] := ⟨_, _, hV.symm⟩
          by_cases c1 : fp bs (k + 1) ∈ up (fp P) v
          · rw [decide_eq_true c1] at h1
            by_cases c2 : fp bs (k + 1) = fp bs v
            · rw [decide_eq_true c2] at h2
              exact .inr ⟨if_neg fun z => z.2.1 c2, _, sq st (sq (ifF (tandT h1 (tandF h2)) rfl) rfl), jV⟩
            · rw [decide_eq_false c2] at h2
              by_cases c3 : fp bs (k + 1) ∈ up (fp P) (fp bs v)
              · rw [decide_eq_true c3] at h3
                exact .inr ⟨if_neg fun z => z.2.2 c3, _, sq st (sq (ifF (tandT h1 (tandT h2 h3)) rfl) rfl), jV⟩
              · rw [decide_eq_false c3] at h3
                exact .inl ⟨_, V, if_pos ⟨c1, c2, c3⟩, sq st (sr (ifT (tandT h1 (tandT h2 h3)) (ret (by rw [← hV]; simp [r_x_var, r_x_c, r_two, r_x_bin, r_t_of, r_t_not, r_t_and, r_t_or, r_x_and, r_x_or, r_x_not, r_x_if, r_x_chain, r_a_nil, r_a_cons, r_argsD, r_argsI, r_x_tup, r_x_lst, r_x_isi, r_x_cb, r_s_seq, r_s_nx, r_s_bk, r_s_ct, r_s_drop, r_s_ret, r_s_if, r_s_set, r_s_setF, r_x_call, r_t_yes, r_s_retN, r_i_seq, x_ix, runF, env0, finR, s_no, putA, okS, isAc, look2, lookR, frzR, lookAll, imAll, imR, isD, e_add, e_sub, e_lt, e_le, e_gt, e_ge, e_eq, e_ne, e_isnone, e_isT, e_isnotnone, e_isnotT, e_isB, e_isnotB, e_neB, e_eqB, c_len, c_tuple, c_list, c_int, okLen]))))⟩
          · rw [decide_eq_false c1] at h1
            exact .inr ⟨if_neg fun z => c1 z.1, _, sq st (sq (ifF (tandF h1) rfl) rfl), jV⟩
      have it : i_seq (x_sl (x_rev (x_ix (x_var 0) (x_var 2))) (o_at (x_c (.int 1))) o_no) [im (.list EL), im (tN bs), im (nD (k + 1)), b, c] = some (((up (fp P) (k + 1)).reverse.drop 1).map nD, [im (.list EL), im (tN bs), im (nD (k + 1)), b, c]) := by
        simp [r_x_var, r_x_c, r_two, r_x_bin, r_t_of, r_t_not, r_t_and, r_t_or, r_x_and, r_x_or, r_x_not, r_x_if, r_x_chain, r_a_nil, r_a_cons, r_argsD, r_argsI, r_x_tup, r_x_lst, r_x_isi, r_x_cb, r_s_seq, r_s_nx, r_s_bk, r_s_ct, r_s_drop, r_s_ret, r_s_if, r_s_set, r_s_setF, r_x_call, r_t_yes, r_s_retN, r_i_seq, x_ix, runF, env0, finR, s_no, putA, okS, isAc, look2, lookR, frzR, lookAll, imAll, imR, isD, e_add, e_sub, e_lt, e_le, e_gt, e_ge, e_eq, e_ne, e_isnone, e_isT, e_isnotnone, e_isnotT, e_isB, e_isnotB, e_neB, e_eqB, c_len, c_tuple, c_list, c_int, nD, r_x_rev, r_x_sl, r_o_at, r_o_no, qe, sliced, cut1]
      rcases inner with ⟨r, e3, i1, i2⟩ | ⟨i1, e3, i2, b', c', rfl⟩
      · exact .inl ⟨r, e3, i1, sf it i2⟩
      · exact .inr ⟨i1, _, sf it i2, _, _, _, rfl⟩
  have hr : i_rng2 (x_c (.int 1)) (x_cb c_len (a_cons (x_var 0) a_nil)) [im (.list EL), im (tN bs), none, none, none] = some ((List.range P.length).map fun k => nD (k + 1), [im (.list EL), im (tN bs), none, none, none]) :=
    i_rng2_at (e1 := [im (.list EL), im (tN bs), none, none, none]) rfl (by simp [r_x_var, r_x_c, r_two, r_x_bin, r_t_of, r_t_not, r_t_and, r_t_or, r_x_and, r_x_or, r_x_not, r_x_if, r_x_chain, r_a_nil, r_a_cons, r_argsD, r_argsI, r_x_tup, r_x_lst, r_x_isi, r_x_cb, r_s_seq, r_s_nx, r_s_bk, r_s_ct, r_s_drop, r_s_ret, r_s_if, r_s_set, r_s_setF, r_x_call, r_t_yes, r_s_retN, r_i_seq, x_ix, runF, env0, finR, s_no, putA, okS, isAc, look2, lookR, frzR, lookAll, imAll, imR, isD, e_add, e_sub, e_lt, e_le, e_gt, e_ge, e_eq, e_ne, e_isnone, e_isT, e_isnotnone, e_isnotT, e_isB, e_isnotB, e_neB, e_eqB, c_len, c_tuple, c_list, c_int, lE]) (by omega)
  rcases main with ⟨r, e3, i1, i2⟩ | ⟨i1, e3, i2, a, b, c, rfl⟩
  · unfold crsB
    rw [i1]
    refine runs rfl (sr (sf hr i2)) ?_
    obtain ⟨k, _, j1⟩ := List.exists_of_findSome?_eq_some i1
    obtain ⟨v, _, j2⟩ := List.exists_of_findSome?_eq_some j1
    by_cases c : fp bs (k + 1) ∈ up (fp P) v ∧ fp bs (k + 1) ≠ fp bs v ∧ fp bs (k + 1) ∉ up (fp P) (fp bs v)
    · rw [if_pos c] at j2
      cases j2
      rfl
    · rw [if_neg c] at j2
      cases j2
  · unfold crsB
    rw [i1]
    exact runs rfl (sq (sf hr i2) (sr (ret (r := .im .none) rfl))) rfl
end
/-! the same result -/
theorem same_loop (A B : PyData) : ∀ (xs : List Int) (s : Option Sl), ∃ s', forGo (g_name 2) [2] (s_if (t_or (t_not (t_of (x_isi .int (x_var 2)))) (t_of (x_isi .bool (x_var 2)))) (s_ret (x_c (.bool false))) s_nx) (xs.map PyData.int) [im A, im B, s] = some (.nx [im A, im B, s'])
  | [], s => ⟨s, rfl⟩
  | x :: xs, s => by
    obtain ⟨s', h⟩ := same_loop A B xs (im (.int x))
    exact ⟨s', h⟩
theorem v_same {xs : List Int} {D : PyData} (hD : D = tZ xs ∨ D = .list (xs.map PyData.int)) : F__law_same [tZ xs, D] = some (.im (.bool true)) := by
  have q := e_eqT xs xs
  obtain ⟨s', h⟩ := same_loop (tZ xs) D xs none
  refine runs rfl (sq (ifF (e1 := [im (tZ xs), im D, none]) ?_ rfl) (sq (sf (ds := xs.map PyData.int) (e1 := [im (tZ xs), im D, none]) (by simp [r_x_var, r_x_c, r_two, r_x_bin, r_t_of, r_t_not, r_t_and, r_t_or, r_x_and, r_x_or, r_x_not, r_x_if, r_x_chain, r_a_nil, r_a_cons, r_argsD, r_argsI, r_x_tup, r_x_lst, r_x_isi, r_x_cb, r_s_seq, r_s_nx, r_s_bk, r_s_ct, r_s_drop, r_s_ret, r_s_if, r_s_set, r_s_setF, r_x_call, r_t_yes, r_s_retN, r_i_seq, x_ix, runF, env0, finR, s_no, putA, okS, isAc, look2, lookR, frzR, lookAll, imAll, imR, isD, e_add, e_sub, e_lt, e_le, e_gt, e_ge, e_eq, e_ne, e_isnone, e_isT, e_isnotnone, e_isnotT, e_isB, e_isnotB, e_neB, e_eqB, c_len, c_tuple, c_list, c_int]) h) (sr (ret (r := .im (.bool true)) (e1 := [im (tZ xs), im D, s']) ?_)))) rfl
  · rcases hD with rfl | rfl
    · simp [r_x_var, r_x_c, r_two, r_x_bin, r_t_of, r_t_not, r_t_and, r_t_or, r_x_and, r_x_or, r_x_not, r_x_if, r_x_chain, r_a_nil, r_a_cons, r_argsD, r_argsI, r_x_tup, r_x_lst, r_x_isi, r_x_cb, r_s_seq, r_s_nx, r_s_bk, r_s_ct, r_s_drop, r_s_ret, r_s_if, r_s_set, r_s_setF, r_x_call, r_t_yes, r_s_retN, r_i_seq, x_ix, runF, env0, finR, s_no, putA, okS, isAc, look2, lookR, frzR, lookAll, imAll, imR, isD, e_add, e_sub, e_lt, e_le, e_gt, e_ge, e_eq, e_ne, e_isnone, e_isT, e_isnotnone, e_isnotT, e_isB, e_isnotB, e_neB, e_eqB, c_len, c_tuple, c_list, c_int]
    · simp [r_x_var, r_x_c, r_two, r_x_bin, r_t_of, r_t_not, r_t_and, r_t_or, r_x_and, r_x_or, r_x_not, r_x_if, r_x_chain, r_a_nil, r_a_cons, r_argsD, r_argsI, r_x_tup, r_x_lst, r_x_isi, r_x_cb, r_s_seq, r_s_nx, r_s_bk, r_s_ct, r_s_drop, r_s_ret, r_s_if, r_s_set, r_s_setF, r_x_call, r_t_yes, r_s_retN, r_i_seq, x_ix, runF, env0, finR, s_no, putA, okS, isAc, look2, lookR, frzR, lookAll, imAll, imR, isD, e_add, e_sub, e_lt, e_le, e_gt, e_ge, e_eq, e_ne, e_isnone, e_isT, e_isnotnone, e_isnotT, e_isB, e_isnotB, e_neB, e_eqB, c_len, c_tuple, c_list, c_int]
  · rcases hD with rfl | rfl
    · simp [r_x_var, r_x_c, r_two, r_x_bin, r_t_of, r_t_not, r_t_and, r_t_or, r_x_and, r_x_or, r_x_not, r_x_if, r_x_chain, r_a_nil, r_a_cons, r_argsD, r_argsI, r_x_tup, r_x_lst, r_x_isi, r_x_cb, r_s_seq, r_s_nx, r_s_bk, r_s_ct, r_s_drop, r_s_ret, r_s_if, r_s_set, r_s_setF, r_x_call, r_t_yes, r_s_retN, r_i_seq, x_ix, runF, env0, finR, s_no, putA, okS, isAc, look2, lookR, frzR, lookAll, imAll, imR, isD, e_add, e_sub, e_lt, e_le, e_gt, e_ge, e_eq, e_ne, e_isnone, e_isT, e_isnotnone, e_isnotT, e_isB, e_isnotB, e_neB, e_eqB, c_len, c_tuple, c_list, c_int, q]
    · simp [r_x_var, r_x_c, r_two, r_x_bin, r_t_of, r_t_not, r_t_and, r_t_or, r_x_and, r_x_or, r_x_not, r_x_if, r_x_chain, r_a_nil, r_a_cons, r_argsD, r_argsI, r_x_tup, r_x_lst, r_x_isi, r_x_cb, r_s_seq, r_s_nx, r_s_bk, r_s_ct, r_s_drop, r_s_ret, r_s_if, r_s_set, r_s_setF, r_x_call, r_t_yes, r_s_retN, r_i_seq, x_ix, runF, env0, finR, s_no, putA, okS, isAc, look2, lookR, frzR, lookAll, imAll, imR, isD, e_add, e_sub, e_lt, e_le, e_gt, e_ge, e_eq, e_ne, e_isnone, e_isT, e_isnotnone, e_isnotT, e_isB, e_isnotB, e_neB, e_eqB, c_len, c_tuple, c_list, c_int, q]
theorem v_sameN {l : List Nat} {D : PyData} (hD : D = tN l ∨ D = lN l) : F__law_same [tN l, D] = some (.im (.bool true)) := by
  have e : tN l = tZ (iN l) := by
    show PyData.tuple (l.map nD) = PyData.tuple ((iN l).map PyData.int)
    rw [map_nD]
  rw [e]
  refine v_same ?_
  rcases hD with rfl | rfl
  · exact .inl e
  · refine .inr ?_
    show PyData.list (l.map nD) = _
    rw [map_nD]
theorem v_most {g h : Nat → Nat} {m : Nat} (hm : m ≤ 1001) (hh : ∀ i, i < m → g i ≤ h i) : F__law_all_at_most [.list ((List.range m).map fun v => nD (g v)), .list ((List.range m).map fun v => nD (h v))] = some (.im (.bool true)) := by
  generalize hA : ((List.range m).map fun v => nD (g v)) = A
  generalize hB : ((List.range m).map fun v => nD (h v)) = B
  have ez : zipD A B = (List.range m).map fun v => PyData.tuple [nD (g v), nD (h v)] := by
    rw [← hA, ← hB]
    unfold zipD
    rw [List.zipWith_map]
    refine List.ext_getElem? fun i => ?_
    rw [List.getElem?_zipWith, List.getElem?_map]
    by_cases hi : i < m
    · rw [List.getElem?_range hi]
      rfl
    · rw [List.getElem?_eq_none (by rw [List.length_range]; omega)]
      rfl
  have q : x_lc (i_zip (x_var 0) (x_var 1)) (g_tup [2, 3]) t_yes (x_bin p_le (x_var 2) (x_var 3)) [2, 3] [im (.list A), im (.list B), none, none] = some (.ac (((List.range m).map fun v => decide (g v ≤ h v)).map PyData.bool), [im (.list A), im (.list B), none, none]) := by
    rw [x_lc_all (e1 := [im (.list A), im (.list B), none, none]) (ds := zipD A B) (fun d => match d with
      | .tuple [.int i, .int j] => .bool (decide (i ≤ j))
      | _ => .none) (by simp [r_x_var, r_x_c, r_two, r_x_bin, r_t_of, r_t_not, r_t_and, r_t_or, r_x_and, r_x_or, r_x_not, r_x_if, r_x_chain, r_a_nil, r_a_cons, r_argsD, r_argsI, r_x_tup, r_x_lst, r_x_isi, r_x_cb, r_s_seq, r_s_nx, r_s_bk, r_s_ct, r_s_drop, r_s_ret, r_s_if, r_s_set, r_s_setF, r_x_call, r_t_yes, r_s_retN, r_i_seq, x_ix, runF, env0, finR, s_no, putA, okS, isAc, look2, lookR, frzR, lookAll, imAll, imR, isD, e_add, e_sub, e_lt, e_le, e_gt, e_ge, e_eq, e_ne, e_isnone, e_isT, e_isnotnone, e_isnotT, e_isB, e_isnotB, e_neB, e_eqB, c_len, c_tuple, c_list, c_int, r_i_zip]) rfl (by rw [ez, List.length_map, List.length_range]; omega) fun d hd => ?_]
    · rw [ez, List.map_map, List.map_map]
      congr 3
      refine List.map_congr_left fun v _ => ?_
      simp [nD]
    · rw [ez] at hd
      obtain ⟨v, _, rfl⟩ := List.mem_map.mp hd
      refine ⟨[im (.list A), im (.list B), im (nD (g v)), im (nD (h v))], .im (.bool (decide ((g v : Int) ≤ (h v : Int)))), [im (.list A), im (.list B), im (nD (g v)), im (nD (h v))], rfl, ?_, rfl, rfl⟩
      simp [r_x_var, r_x_c, r_two, r_x_bin, r_t_of, r_t_not, r_t_and, r_t_or, r_x_and, r_x_or, r_x_not, r_x_if, r_x_chain, r_a_nil, r_a_cons, r_argsD, r_argsI, r_x_tup, r_x_lst, r_x_isi, r_x_cb, r_s_seq, r_s_nx, r_s_bk, r_s_ct, r_s_drop, r_s_ret, r_s_if, r_s_set, r_s_setF, r_x_call, r_t_yes, r_s_retN, r_i_seq, x_ix, runF, env0, finR, s_no, putA, okS, isAc, look2, lookR, frzR, lookAll, imAll, imR, isD, e_add, e_sub, e_lt, e_le, e_gt, e_ge, e_eq, e_ne, e_isnone, e_isT, e_isnotnone, e_isnotT, e_isB, e_isnotB, e_neB, e_eqB, c_len, c_tuple, c_list, c_int, nD]
  have q2 := cbA q
  have q3 : ((List.range m).map fun v => decide (g v ≤ h v)).all id = true := by
    rw [List.all_eq_true]
    intro x hx
    obtain ⟨v, hv, rfl⟩ := List.mem_map.mp hx
    exact decide_eq_true (hh v (List.mem_range.mp hv))
  rw [q3] at q2
  exact runs rfl (ret q2) rfl
end K58
namespace K58
open PySem PySem.Spec PyProof.Rows L2 DL
/-! ### writes -/
def ctL (c : Nat → Nat) (m : Nat) : List PyData := (List.range m).map fun x => nD (c x)
theorem ctL_len (c : Nat → Nat) (m : Nat) : (ctL c m).length = m := by
  unfold ctL
  (rw [List.length_map, List.length_range])
theorem ctL_congr {c d : Nat → Nat} {m : Nat} (h : ∀ x, x < m → c x = d x) : ctL c m = ctL d m := by
  refine List.map_congr_left fun x hx => ?_
  rw [h x (List.mem_range.mp hx)]
theorem ctL_set {c : Nat → Nat} {m j : Nat} (h : j < m) (v : Nat) : (ctL c m).set j (nD v) = ctL (fun x => if x = j then v else c x) m := by
  refine List.ext_getElem? fun i => ?_
  unfold ctL
  rw [set_get, List.getElem?_map, List.getElem?_map, List.length_map, List.length_range]
  by_cases hi : i < m
  · rw [List.getElem?_range hi]
    by_cases e : j = i
    · subst e
      rw [if_pos ⟨rfl, hi⟩]
      simp
    · rw [if_neg (by omega)]
      have e2 : ¬ i = j := fun z => e z.symm
      simp [e2]
  · rw [if_neg (by omega), List.getElem?_eq_none (by rw [List.length_range]; omega)]
    rfl
theorem ctL_zero (m : Nat) : (List.replicate m [PyData.int 0]).flatten = ctL (fun _ => 0) m := by
  induction m with
  | zero => rfl
  | succ m ih =>
    rw [List.replicate_succ', List.flatten_append, ih]
    unfold ctL
    rw [List.range_succ, List.map_append]
    rfl
def evB (p b : Nat → Nat) (z : Nat) : List Nat := (z :: up p z).filter fun u => decide (b z < u)
section
variable {p b : Nat → Nat}
theorem sheet_count (x z : Nat) : (sheet p b z).count x = (evB p b z).count x := by
  unfold sheet way evB
  rw [List.filter_filter, List.filter_reverse, List.count_reverse]
  congr 1
  refine List.filter_congr fun u _ => ?_
  by_cases c : b z < u
  · have : 0 < u := by omega
    simp [c, this]
  · simp [c]
def wrB (p b : Nat → Nat) (n e : Nat) : Nat := ((List.range n).flatMap fun k => evB p b (k + 1)).count e
theorem wrA_eq (n e : Nat) : ((List.range n).flatMap fun k => sheet p b (k + 1)).count e = wrB p b n e := by
  unfold wrB
  rw [List.count_flatMap, List.count_flatMap]
  congr 1
  (refine List.map_congr_left fun k _ => ?_)
  exact sheet_count e (k + 1)
theorem sum_le {l : List Nat} {f g : Nat → Nat} (h : ∀ x ∈ l, f x ≤ g x) : (l.map f).sum ≤ (l.map g).sum := by
  induction l with
  | nil => exact Nat.le_refl _
  | cons a l ih =>
    rw [List.map_cons, List.map_cons, List.sum_cons, List.sum_cons]
    have := h a List.mem_cons_self
    have := ih fun x m => h x (List.mem_cons_of_mem _ m)
    omega
theorem wrB_le {c : Nat → Nat} {n : Nat} (h : ∀ z, 1 ≤ z → z ≤ n → b z ≤ c z) (e : Nat) : wrB p c n e ≤ wrB p b n e := by
  unfold wrB
  rw [List.count_flatMap, List.count_flatMap]
  refine sum_le fun k hk => ?_
  have q := h (k + 1) (by omega) (by have := List.mem_range.mp hk; omega)
  show (evB p c (k + 1)).count e ≤ (evB p b (k + 1)).count e
  have e2 : evB p c (k + 1) = (evB p b (k + 1)).filter fun u => decide (c (k + 1) < u) := by
    unfold evB
    rw [List.filter_filter]
    refine List.filter_congr fun u _ => ?_
    by_cases a : c (k + 1) < u
    · have : b (k + 1) < u := by omega
      simp [a, this]
    · simp [a]
  rw [e2]
  exact List.Sublist.count_le _ List.filter_sublist
end
section
variable {P bs : List Nat} (hp : Par (fp P)) (hn : P.length ≤ 1000) (hl : bs.length = P.length) (hb : Bas (fp P) (fp bs) P.length)
include hp hn hl hb
theorem v_law_writes : F__law_writes [.list (elL (fp P) P.length), tN bs] = some (.ac (ctL (fun x => wrB (fp P) (fp bs) P.length (x + 1)) P.length)) := by
  generalize hE : elL (fp P) P.length = EL
  have lE : EL.length = P.length + 1 := by rw [← hE, elL_len]
  obtain ⟨e3, g1, a, b, g2⟩ := forGo_inv (γ := g_name 3) (S := [3]) (fb := s_for (i_seq (x_bin p_add (x_lst (a_cons (x_var 3) a_nil)) (x_ix (x_var 0) (x_var 3)))) (g_name 4) [4]
      (s_if (t_of (x_bin p_gt (x_var 4) (x_ix (x_var 1) (x_bin p_sub (x_var 3) (x_c (.int 1)))))) (s_put 2 (x_bin p_add (x_ix (x_var 2) (x_bin p_sub (x_var 4) (x_c (.int 1)))) (x_c (.int 1))) (x_bin p_sub (x_var 4) (x_c (.int 1)))) s_nx))
    (fun k => nD (k + 1)) (List.range P.length) (fun pre e => ∃ a b, e = [im (.list EL), im (tN bs), ac (ctL (fun x => (pre.flatMap fun k => evB (fp P) (fp bs) (k + 1)).count (x + 1)) P.length), a, b]) [im (.list EL), im (tN bs), ac (ctL (fun _ => 0) P.length), none, none] ⟨_, _, rfl⟩ fun pre k post hk e he => by
      obtain ⟨a, b, rfl⟩ := he
      have lk : k < P.length := List.mem_range.mp (by rw [hk]; simp)
      generalize hc : (fun x => (pre.flatMap fun k => evB (fp P) (fp bs) (k + 1)).count (x + 1)) = c
      have qe := ixE1 (p := fp P) (m := P.length) (k := k) (by omega)
      rw [hE] at qe
      have qb := ix2 (P := bs) (k := k) (by omega)
      obtain ⟨e4, i1, s, i2⟩ := forGo_inv (γ := g_name 4) (S := [4]) (fb := s_if (t_of (x_bin p_gt (x_var 4) (x_ix (x_var 1) (x_bin p_sub (x_var 3) (x_c (.int 1)))))) (s_put 2 (x_bin p_add (x_ix (x_var 2) (x_bin p_sub (x_var 4) (x_c (.int 1)))) (x_c (.int 1))) (x_bin p_sub (x_var 4) (x_c (.int 1)))) s_nx)
        nD ((k + 1) :: up (fp P) (k + 1)) (fun pr e => ∃ s, e = [im (.list EL), im (tN bs), ac (ctL (fun x => c x + (pr.filter fun u => decide (fp bs (k + 1) < u)).count (x + 1)) P.length), im (nD (k + 1)), s]) [im (.list EL), im (tN bs), ac (ctL c P.length), im (nD (k + 1)), b] ⟨b, rfl⟩ fun pr u po hu e he => by
          obtain ⟨s, rfl⟩ := he
          have mu : u ∈ (k + 1) :: up (fp P) (k + 1) := by rw [hu]; simp
          have lu : u ≤ k + 1 := by
            rcases List.mem_cons.mp mu with e | m
            · omega
            · have := up_lt hp m
              omega
          generalize hd : (fun x => c x + (pr.filter fun u => decide (fp bs (k + 1) < u)).count (x + 1)) = d
          generalize hV : ([im (.list EL), im (tN bs), ac (ctL d P.length), im (nD (k + 1)), im (nD u)] : Ev) = V
          have h1 : t_of (x_bin p_gt (x_var 4) (x_ix (x_var 1) (x_bin p_sub (x_var 3) (x_c (.int 1))))) V = some (decide (fp bs (k + 1) < u), V) := by
            rw [← hV]
            simp [r_x_var, r_x_c, r_two, r_x_bin, r_t_of, r_t_not, r_t_and, r_t_or, r_x_and, r_x_or, r_x_not, r_x_if, r_x_chain, r_a_nil, r_a_cons, r_argsD, r_argsI, r_x_tup, r_x_lst, r_x_isi, r_x_cb, r_s_seq, r_s_nx, r_s_bk, r_s_ct, r_s_drop, r_s_ret, r_s_if, r_s_set, r_s_setF, r_x_call, r_t_yes, r_s_retN, r_i_seq, x_ix, runF, env0, finR, s_no, putA, okS, isAc, look2, lookR, frzR, lookAll, imAll, imR, isD, e_add, e_sub, e_lt, e_le, e_gt, e_ge, e_eq, e_ne, e_isnone, e_isT, e_isnotnone, e_isnotT, e_isB, e_isnotB, e_neB, e_eqB, c_len, c_tuple, c_list, c_int, nD, qb]
          by_cases c1 : fp bs (k + 1) < u
          · rw [decide_eq_true c1] at h1
            have qi : p_ix (.list (ctL d P.length)) (.int ((u - 1 : Nat) : Int)) = some (.im (nD (d (u - 1)))) := ixR (g := fun x => nD (d x)) (by omega)
            have pc := pred_cast (v := u) (by omega)
            have nx := ixN_nat (n := P.length) (j := u - 1) (by omega)
            have st := ctL_set (c := d) (m := P.length) (j := u - 1) (by omega) (d (u - 1) + 1)
            refine ⟨rfl, V, [im (.list EL), im (tN bs), ac (ctL (fun x => if x = u - 1 then d (u - 1) + 1 else d x) P.length), im (nD (k + 1)), im (nD u)], by rw [← hV]; rfl, .inl (ifT h1 ?_), im (nD u), ?_⟩
            · rw [← hV, ← st]
              simp [r_s_put, r_x_var, r_x_c, r_two, r_x_bin, r_t_of, r_t_not, r_t_and, r_t_or, r_x_and, r_x_or, r_x_not, r_x_if, r_x_chain, r_a_nil, r_a_cons, r_argsD, r_argsI, r_x_tup, r_x_lst, r_x_isi, r_x_cb, r_s_seq, r_s_nx, r_s_bk, r_s_ct, r_s_drop, r_s_ret, r_s_if, r_s_set, r_s_setF, r_x_call, r_t_yes, r_s_retN, r_i_seq, x_ix, runF, env0, finR, s_no, putA, okS, isAc, look2, lookR, frzR, lookAll, imAll, imR, isD, e_add, e_sub, e_lt, e_le, e_gt, e_ge, e_eq, e_ne, e_isnone, e_isT, e_isnotnone, e_isnotT, e_isB, e_isnotB, e_neB, e_eqB, c_len, c_tuple, c_list, c_int, nD, pc, qi, nx, ctL_len]
            · congr 4
              refine ctL_congr fun x hx => ?_
              rw [List.filter_append, List.count_append]
              have f : [u].filter (fun u => decide (fp bs (k + 1) < u)) = [u] := List.filter_eq_self.mpr fun y m => by
                rw [List.mem_singleton.mp m]
                exact decide_eq_true c1
              rw [f, ← hd]
              by_cases e : x = u - 1
              · rw [if_pos e]
                have e2 : x + 1 = u := by omega
                rw [e2, List.count_singleton_self]
                have e3 : u - 1 + 1 = u := by omega
                simp only [e3]
                rw [show x = u - 1 from e]
                omega
              · rw [if_neg e]
                have e2 : ¬ u = x + 1 := by omega
                rw [List.count_eq_zero_of_not_mem (l := [u]) (by
                  intro m
                  exact e2 (List.mem_singleton.mp m).symm)]
                rfl
          · rw [decide_eq_false c1] at h1
            refine ⟨rfl, V, V, by rw [← hV]; rfl, .inl (ifF h1 rfl), im (nD u), ?_⟩
            rw [← hV]
            congr 4
            refine ctL_congr fun x hx => ?_
            rw [List.filter_append, List.count_append, ← hd]
            have f : [u].filter (fun u => decide (fp bs (k + 1) < u)) = [] := by
              rw [List.filter_cons_of_neg (by simp [c1])]
              rfl
            rw [f]
            rfl
      subst i2
      have lu := up_len hp (k + 1)
      have qa : p_add (.list [nD (k + 1)]) (lN (up (fp P) (k + 1))) = some (.ac (nD (k + 1) :: (up (fp P) (k + 1)).map nD)) := e_cat (by simp only [List.length_cons, List.length_nil, List.length_map]; omega)
      have it : i_seq (x_bin p_add (x_lst (a_cons (x_var 3) a_nil)) (x_ix (x_var 0) (x_var 3))) [im (.list EL), im (tN bs), ac (ctL c P.length), im (nD (k + 1)), b] = some (((k + 1) :: up (fp P) (k + 1)).map nD, [im (.list EL), im (tN bs), ac (ctL c P.length), im (nD (k + 1)), b]) := by
        refine iseqA (binAI (as := [nD (k + 1)]) (b := lN (up (fp P) (k + 1))) (e1 := [im (.list EL), im (tN bs), ac (ctL c P.length), im (nD (k + 1)), b]) ?_ (binI (vI rfl) (vI rfl) qe) qa)
        simp [r_x_var, r_x_c, r_two, r_x_bin, r_t_of, r_t_not, r_t_and, r_t_or, r_x_and, r_x_or, r_x_not, r_x_if, r_x_chain, r_a_nil, r_a_cons, r_argsD, r_argsI, r_x_tup, r_x_lst, r_x_isi, r_x_cb, r_s_seq, r_s_nx, r_s_bk, r_s_ct, r_s_drop, r_s_ret, r_s_if, r_s_set, r_s_setF, r_x_call, r_t_yes, r_s_retN, r_i_seq, x_ix, runF, env0, finR, s_no, putA, okS, isAc, look2, lookR, frzR, lookAll, imAll, imR, isD, e_add, e_sub, e_lt, e_le, e_gt, e_ge, e_eq, e_ne, e_isnone, e_isT, e_isnotnone, e_isnotT, e_isB, e_isnotB, e_neB, e_eqB, c_len, c_tuple, c_list, c_int, okLen]
      refine ⟨rfl, [im (.list EL), im (tN bs), ac (ctL c P.length), im (nD (k + 1)), b], _, rfl, .inl (sf it i1), im (nD (k + 1)), s, ?_⟩
      congr 4
      refine ctL_congr fun x hx => ?_
      rw [List.flatMap_append, List.count_append, ← hc, List.flatMap_singleton]
      rfl
  subst g2
  have hr : i_rng2 (x_c (.int 1)) (x_cb c_len (a_cons (x_var 0) a_nil)) [im (.list EL), im (tN bs), ac (ctL (fun _ => 0) P.length), none, none] = some ((List.range P.length).map fun k => nD (k + 1), [im (.list EL), im (tN bs), ac (ctL (fun _ => 0) P.length), none, none]) :=
    i_rng2_at (e1 := [im (.list EL), im (tN bs), ac (ctL (fun _ => 0) P.length), none, none]) rfl (by simp [r_x_var, r_x_c, r_two, r_x_bin, r_t_of, r_t_not, r_t_and, r_t_or, r_x_and, r_x_or, r_x_not, r_x_if, r_x_chain, r_a_nil, r_a_cons, r_argsD, r_argsI, r_x_tup, r_x_lst, r_x_isi, r_x_cb, r_s_seq, r_s_nx, r_s_bk, r_s_ct, r_s_drop, r_s_ret, r_s_if, r_s_set, r_s_setF, r_x_call, r_t_yes, r_s_retN, r_i_seq, x_ix, runF, env0, finR, s_no, putA, okS, isAc, look2, lookR, frzR, lookAll, imAll, imR, isD, e_add, e_sub, e_lt, e_le, e_gt, e_ge, e_eq, e_ne, e_isnone, e_isT, e_isnotnone, e_isnotT, e_isB, e_isnotB, e_neB, e_eqB, c_len, c_tuple, c_list, c_int, lE]) (by omega)
  refine runs rfl (sq (setX (i := 2) (r := .ac (ctL (fun _ => 0) P.length)) (e1 := [im (.list EL), im (tN bs), none, none, none]) ?_ rfl rfl) (sq (sf hr g1) (sr (ret (r := .br 2) rfl)))) rfl
  have z := ctL_zero P.length
  rw [r_x_rep]
  have k1 : okLen (1 * P.length) = true := okLen_yes (by omega)
  have k2 : P.length < 9223372036854775808 := by omega
  simp [r_x_var, r_x_c, r_two, r_x_bin, r_t_of, r_t_not, r_t_and, r_t_or, r_x_and, r_x_or, r_x_not, r_x_if, r_x_chain, r_a_nil, r_a_cons, r_argsD, r_argsI, r_x_tup, r_x_lst, r_x_isi, r_x_cb, r_s_seq, r_s_nx, r_s_bk, r_s_ct, r_s_drop, r_s_ret, r_s_if, r_s_set, r_s_setF, r_x_call, r_t_yes, r_s_retN, r_i_seq, x_ix, runF, env0, finR, s_no, putA, okS, isAc, look2, lookR, frzR, lookAll, imAll, imR, isD, e_add, e_sub, e_lt, e_le, e_gt, e_ge, e_eq, e_ne, e_isnone, e_isT, e_isnotnone, e_isnotT, e_isB, e_isnotB, e_neB, e_eqB, c_len, c_tuple, c_list, c_int, hl, z, k1, k2, okLen]
  omega
theorem v_writes_by : F_writes_by [tN P, tN bs] = some (.im (.tuple (ctL (fun x => wrB (fp P) (fp bs) P.length (x + 1)) P.length))) := by
  have q0 := v_ask_bases hp hn hl hb
  obtain ⟨e3, g1, a, b, g2⟩ := forGo_inv (γ := g_name 3) (S := [3]) (fb := s_for (i_seq (x_call F_sheet_from [] (a_cons (x_var 0) (a_cons (x_var 1) (a_cons (x_var 3) a_nil))))) (g_name 4) [4] (s_augI (fun i j => i + j) 2 (x_var 4) (x_c (.int 1))))
    (fun k => nD (k + 1)) (List.range P.length) (fun pre e => ∃ a b, e = [im (tN P), im (tN bs), ac (ctL (fun x => (pre.flatMap fun k => sheet (fp P) (fp bs) (k + 1)).count x) (P.length + 1)), a, b]) [im (tN P), im (tN bs), ac (ctL (fun _ => 0) (P.length + 1)), none, none] ⟨_, _, rfl⟩ fun pre k post hk e he => by
      obtain ⟨a, b, rfl⟩ := he
      have lk : k < P.length := List.mem_range.mp (by rw [hk]; simp)
      generalize hc : (fun x => (pre.flatMap fun k => sheet (fp P) (fp bs) (k + 1)).count x) = c
      have qs := v_sheet hp hn hl hb (z := k + 1) (by omega) (by omega)
      obtain ⟨e4, i1, s, i2⟩ := forGo_inv (γ := g_name 4) (S := [4]) (fb := s_augI (fun i j => i + j) 2 (x_var 4) (x_c (.int 1)))
        nD (sheet (fp P) (fp bs) (k + 1)) (fun pr e => ∃ s, e = [im (tN P), im (tN bs), ac (ctL (fun x => c x + pr.count x) (P.length + 1)), im (nD (k + 1)), s]) [im (tN P), im (tN bs), ac (ctL c (P.length + 1)), im (nD (k + 1)), b] ⟨b, rfl⟩ fun pr u po hu e he => by
          obtain ⟨s, rfl⟩ := he
          have mu : u ∈ sheet (fp P) (fp bs) (k + 1) := by rw [hu]; simp
          have lu : u ≤ k + 1 := by
            obtain ⟨_, m⟩ := way_mem hp (List.mem_filter.mp mu).1
            rcases m with e | m
            · omega
            · have := up_lt hp m
              omega
          generalize hd : (fun x => c x + pr.count x) = d
          have qi : atI (ctL d (P.length + 1)) (u : Int) = some (nD (d u)) := by
            rw [DL.atI_nat]
            unfold ctL
            rw [List.getElem?_map, List.getElem?_range (by omega)]
            rfl
          have nx := ixN_nat (n := P.length + 1) (j := u) (by omega)
          have st := ctL_set (c := d) (m := P.length + 1) (j := u) (by omega) (d u + 1)
          refine ⟨rfl, [im (tN P), im (tN bs), ac (ctL d (P.length + 1)), im (nD (k + 1)), im (nD u)], [im (tN P), im (tN bs), ac (ctL (fun x => if x = u then d u + 1 else d x) (P.length + 1)), im (nD (k + 1)), im (nD u)], rfl, .inl ?_, im (nD u), ?_⟩
          · rw [← st]
            simp only [nD] at qi
            simp [r_s_augI, r_x_var, r_x_c, r_two, r_x_bin, r_t_of, r_t_not, r_t_and, r_t_or, r_x_and, r_x_or, r_x_not, r_x_if, r_x_chain, r_a_nil, r_a_cons, r_argsD, r_argsI, r_x_tup, r_x_lst, r_x_isi, r_x_cb, r_s_seq, r_s_nx, r_s_bk, r_s_ct, r_s_drop, r_s_ret, r_s_if, r_s_set, r_s_setF, r_x_call, r_t_yes, r_s_retN, r_i_seq, x_ix, runF, env0, finR, s_no, putA, okS, isAc, look2, lookR, frzR, lookAll, imAll, imR, isD, e_add, e_sub, e_lt, e_le, e_gt, e_ge, e_eq, e_ne, e_isnone, e_isT, e_isnotnone, e_isnotT, e_isB, e_isnotB, e_neB, e_eqB, c_len, c_tuple, c_list, c_int, nD, qi, nx, ctL_len]
          · congr 4
            refine ctL_congr fun x hx => ?_
            rw [List.count_append, ← hd]
            by_cases e : x = u
            · rw [if_pos e, e, List.count_singleton_self]
              dsimp only
              omega
            · rw [if_neg e]
              rw [List.count_eq_zero_of_not_mem (l := [u]) (by
                intro m
                exact e (List.mem_singleton.mp m))]
              rfl
      subst i2
      have it : i_seq (x_call F_sheet_from [] (a_cons (x_var 0) (a_cons (x_var 1) (a_cons (x_var 3) a_nil)))) [im (tN P), im (tN bs), ac (ctL c (P.length + 1)), im (nD (k + 1)), b] = some ((sheet (fp P) (fp bs) (k + 1)).map nD, [im (tN P), im (tN bs), ac (ctL c (P.length + 1)), im (nD (k + 1)), b]) :=
        iseqT (callI (aI (vI rfl) (aI (vI rfl) (aI (vI rfl) a0))) rfl qs)
      refine ⟨rfl, [im (tN P), im (tN bs), ac (ctL c (P.length + 1)), im (nD (k + 1)), b], _, rfl, .inl (sf it i1), im (nD (k + 1)), s, ?_⟩
      congr 4
      refine ctL_congr fun x hx => ?_
      rw [List.flatMap_append, List.count_append, ← hc, List.flatMap_singleton]
  subst g2
  have qm := v_many (P.map nD)
  have hr : i_rng2 (x_c (.int 1)) (x_bin p_add (x_call F_many_of [] (a_cons (x_var 0) a_nil)) (x_c (.int 1))) [im (tN P), im (tN bs), ac (ctL (fun _ => 0) (P.length + 1)), none, none] = some ((List.range P.length).map fun k => nD (k + 1), [im (tN P), im (tN bs), ac (ctL (fun _ => 0) (P.length + 1)), none, none]) :=
    i_rng2_at (e1 := [im (tN P), im (tN bs), ac (ctL (fun _ => 0) (P.length + 1)), none, none]) rfl (binI (callI (aI (vI rfl) a0) rfl qm) cI (by rw [List.length_map]; exact e_add)) (by omega)
  refine runs rfl (sq (drop (bc q0)) (sq (setX (i := 2) (r := .ac (ctL (fun _ => 0) (P.length + 1))) (e1 := [im (tN P), im (tN bs), none, none, none]) ?_ rfl rfl) (sq (sf hr g1) (sr (ret (cbT (ds := ctL (fun x => wrB (fp P) (fp bs) P.length (x + 1)) P.length) (e1 := [im (tN P), im (tN bs), ac (ctL (fun x => ((List.range P.length).flatMap fun k => sheet (fp P) (fp bs) (k + 1)).count x) (P.length + 1)), a, b]) ?_)))))) rfl
  · have z := ctL_zero (P.length + 1)
    have b1 : x_bin p_add (x_call F_many_of [] (a_cons (x_var 0) a_nil)) (x_c (.int 1)) [im (tN P), im (tN bs), none, none, none] = some (.im (.int ((P.length : Int) + 1)), [im (tN P), im (tN bs), none, none, none]) := binI (callI (aI (vI rfl) a0) rfl qm) cI (by rw [List.length_map]; exact e_add)
    show x_rep _ _ [im (tN P), im (tN bs), none, none, none] = _
    rw [r_x_rep]
    have k2 : (P.length : Int) + 1 < 9223372036854775808 := by omega
    have k3 : ((P.length : Int) + 1).toNat = P.length + 1 := by omega
    have k4 : -9223372036854775808 ≤ (P.length : Int) + 1 := by omega
    have a1 : argsI (a_cons (x_c (.int 0)) a_nil) [im (tN P), im (tN bs), none, none, none] = some ([.int 0], [im (tN P), im (tN bs), none, none, none]) := rfl
    rw [a1]
    simp only [b1, k3]
    rw [if_pos (by
      have k5 : okLen ([PyData.int 0].length * (P.length + 1)) = true := okLen_yes (by simp only [List.length_cons, List.length_nil]; omega)
      rw [k5]
      have k6 : decide (-9223372036854775808 ≤ (P.length : Int) + 1 ∧ (P.length : Int) + 1 < 9223372036854775808) = true := decide_eq_true ⟨k4, k2⟩
      rw [k6]
      rfl), z]
  · have t : (ctL (fun x => ((List.range P.length).flatMap fun k => sheet (fp P) (fp bs) (k + 1)).count x) (P.length + 1)).tail = ctL (fun x => wrB (fp P) (fp bs) P.length (x + 1)) P.length := by
      unfold ctL
      rw [List.range_succ_eq_map, List.map_cons, List.tail_cons, List.map_map]
      (refine List.map_congr_left fun x _ => ?_)
      show nD (List.count (x + 1) _) = _
      rw [wrA_eq]
    rw [← t]
    generalize ctL (fun x => ((List.range P.length).flatMap fun k => sheet (fp P) (fp bs) (k + 1)).count x) (P.length + 1) = C
    simp [r_x_var, r_x_c, r_two, r_x_bin, r_t_of, r_t_not, r_t_and, r_t_or, r_x_and, r_x_or, r_x_not, r_x_if, r_x_chain, r_a_nil, r_a_cons, r_argsD, r_argsI, r_x_tup, r_x_lst, r_x_isi, r_x_cb, r_s_seq, r_s_nx, r_s_bk, r_s_ct, r_s_drop, r_s_ret, r_s_if, r_s_set, r_s_setF, r_x_call, r_t_yes, r_s_retN, r_i_seq, x_ix, runF, env0, finR, s_no, putA, okS, isAc, look2, lookR, frzR, lookAll, imAll, imR, isD, e_add, e_sub, e_lt, e_le, e_gt, e_ge, e_eq, e_ne, e_isnone, e_isT, e_isnotnone, e_isnotT, e_isB, e_isnotB, e_neB, e_eqB, c_len, c_tuple, c_list, c_int, r_x_sl, r_o_at, r_o_no, sliced, cut1]
end
end K58
namespace K58
open PySem PySem.Spec PyProof.Rows L2 DL
/-! ### the questions -/
theorem isiI {T : Ty} {f : Fe} {e e1 : Ev} {d : PyData} {b : Bool} (h : f e = some (.im d, e1)) (k : isD T d = some b) : x_isi T f e = some (.im (.bool b), e1) := by
  rw [r_x_isi, h]
  simp only [frzR, lookR, k]
theorem rd_congr {b c : Nat → Nat} {n : Nat} (hb : Dn b n) (hc : Dn c n) (h : ∀ z, 1 ≤ z → z ≤ n → b z = c z) : ∀ {v : Nat}, v ≤ n → rd b v = rd c v := by
  intro v
  induction v using Nat.strongRecOn with
  | ind v ih =>
    intro hv
    by_cases h1 : 1 ≤ v
    · rw [rd_pos hb h1 hv, rd_pos hc h1 hv, h v h1 hv]
      have := hc v h1 hv
      rw [ih (c v) this (by omega)]
    · have : v = 0 := by omega
      subst this
      rfl
section
variable {P bs : List Nat} (hp : Par (fp P)) (hn : P.length ≤ 1000) (hl : bs.length = P.length) (hb : Bas (fp P) (fp bs) P.length)
include hp hn hl hb
theorem v_crossed : F__law_crossed_right [tN P, .list (elL (fp P) P.length), tN bs] = some (.im (.bool true)) := by
  have q1 := v_crossing_of hp hn hl hb
  have q2 := v_law_crossing hp hn hl hb
  rw [← crs_eq hp hb] at q2
  have q3 := v_is_plan hp hn hl hb
  have q4 := v_is_bases hp hn hl hb
  generalize elL (fp P) P.length = EL at q2
  rcases crsA_cases hp hn hl hb with h | ⟨v, z, h⟩
  · rw [h] at q1 q2 q3
    refine runs rfl (sq (setF (i := 3) (callI (aI (vI rfl) (aI (vI rfl) a0)) rfl q1) rfl rfl) (sq (setF (i := 4) (callI (aI (vI rfl) (aI (vI rfl) a0)) rfl q2) rfl rfl) (sq (setF (i := 5) (callI (aI (vI rfl) (aI (vI rfl) a0)) rfl q3) rfl rfl) (sq (ifF (torF (bang (binI (callI (aI (vI rfl) (aI (vI rfl) a0)) rfl q4) cI rfl)) (torF (tnot (b := true) (bang (isiI (vI rfl) rfl))) (bang (binI (vI rfl) (binI (vI rfl) cI rfl) rfl)))) rfl) (sr (ifT (bang (binI (vI rfl) cI rfl)) (ret (binI (vI rfl) cI rfl)))))))) rfl
  · have q5 := v_sameN (l := [v, z]) (D := tN [v, z]) (.inl rfl)
    rw [h] at q1 q2 q3
    refine runs rfl (sq (setF (i := 3) (callI (aI (vI rfl) (aI (vI rfl) a0)) rfl q1) rfl rfl) (sq (setF (i := 4) (callI (aI (vI rfl) (aI (vI rfl) a0)) rfl q2) rfl rfl) (sq (setF (i := 5) (callI (aI (vI rfl) (aI (vI rfl) a0)) rfl q3) rfl rfl) (sq (ifF (torF (bang (binI (callI (aI (vI rfl) (aI (vI rfl) a0)) rfl q4) cI rfl)) (torF (tnot (b := true) (bang (isiI (vI rfl) rfl))) (bang (binI (vI rfl) (binI (vI rfl) cI rfl) rfl)))) rfl) (sq (ifF (bang (binI (vI rfl) cI rfl)) rfl) (sr (ret (callI (aI (vI rfl) (aI (vI rfl) a0)) rfl q5))))))))  rfl
theorem v_counts : F__law_counts_right [tN P, .list (elL (fp P) P.length), tN bs] = some (.im (.bool true)) := by
  have q1 := v_reads_by hp hn hl hb
  have dn : Dn (fp bs) bs.length := by
    rw [hl]
    exact bas_dn hp hb
  have q2 := v_law_reads dn (by omega)
  have q3 := v_writes_by hp hn hl hb
  have q4 := v_law_writes hp hn hl hb
  rw [hl] at q2
  have e1 : PyData.tuple (rdL (fp bs) P.length) = tZ (rdI (fp bs) P.length) := by
    show _ = PyData.tuple _
    rw [rdL_I]
  have s1 := v_same (xs := rdI (fp bs) P.length) (D := .list (rdL (fp bs) P.length)) (.inr (by rw [rdL_I]))
  rw [← e1] at s1
  have s2 := v_sameN (l := (List.range P.length).map fun x => wrB (fp P) (fp bs) P.length (x + 1)) (.inr rfl)
  have e2 : ((List.range P.length).map fun x => wrB (fp P) (fp bs) P.length (x + 1)).map nD = ctL (fun x => wrB (fp P) (fp bs) P.length (x + 1)) P.length := by
    unfold ctL
    rw [List.map_map]
    rfl
  simp only [tN, lN, e2] at s2
  generalize elL (fp P) P.length = EL at q4
  exact runs rfl (ret (andT (callI (aI (callI (aI (vI rfl) (aI (vI rfl) a0)) rfl q1) (aA (callA (aI (vI rfl) a0) rfl q2) a0)) rfl s1) (callI (aI (callI (aI (vI rfl) (aI (vI rfl) a0)) rfl q3) (aA (callA (aI (vI rfl) (aI (vI rfl) a0)) rfl q4) a0)) rfl s2))) rfl
/-- the plan of the reads' heights -/
def pl (p b : Nat → Nat) (n : Nat) : List Nat := planL p (fz (hsOf b n)) n
omit hn hl in
theorem pl_at {z : Nat} (h1 : 1 ≤ z) (h2 : z ≤ P.length) : fp (pl (fp P) (fp bs) P.length) z = nh (fp P) (fun v => mx (fp bs) P.length + 1 - (rd (fp bs) v : Int)) z := by
  unfold pl
  rw [planL_at h1 h2, nh_hsOf hp h1 h2]
omit hn in
theorem pl_free : pl (fp P) (fp bs) P.length = bs ↔ crsA (fp P) (fp bs) P.length = none := by
  rw [crs_free hp hb]
  constructor
  · intro e z h1 h2 v hv l
    have lv := up_lt hp hv
    have f := nh_free hp (fun v => mx (fp bs) P.length + 1 - (rd (fp bs) v : Int)) P.length z h1 h2 v hv
    have a1 := pl_at hp hb h1 h2
    have a2 := pl_at hp hb (z := v) (by omega) (by omega)
    rw [e] at a1 a2
    rw [← a1, ← a2] at f
    exact f l
  · intro f
    refine List.ext_getElem? fun i => ?_
    by_cases hi : i < P.length
    · have g1 := fp_get (P := pl (fp P) (fp bs) P.length) (v := i + 1) (by omega) (by unfold pl; rw [planL_len]; omega)
      have g2 := fp_get (P := bs) (v := i + 1) (by omega) (by omega)
      rw [Nat.add_sub_cancel] at g1 g2
      rw [g1, g2, pl_at hp hb (by omega) (by omega), nh_free_eq hp hb f (fun u v _ _ => by omega) (by omega) (by omega)]
    · rw [List.getElem?_eq_none (by unfold pl; rw [planL_len]; omega), List.getElem?_eq_none (by omega)]
theorem v_led : F__law_led_right [tN P, .list (elL (fp P) P.length), tN bs] = some (.im (.bool true)) := by
  have dn : Dn (fp bs) bs.length := by
    rw [hl]
    exact bas_dn hp hb
  have q1 := v_crossed hp hn hl hb
  have q2 := v_heights_of hp hn hl hb
  have q3 := v_law_heights dn (by omega)
  rw [hl] at q3
  have hl2 := hsOf_len (fp bs) P.length
  have q4 := v_bases_by hp hn hl2 hsOf_pos
  have q5 := v_higher (P := P) hp hn hl2
  have pll := planL_len (fp P) (fz (hsOf (fp bs) P.length)) P.length
  have plb := planL_bas hp (fz (hsOf (fp bs) P.length)) P.length
  have q6 := v_law_crossing hp hn pll plb
  have free2 : crsB (fp P) (fp (planL (fp P) (fz (hsOf (fp bs) P.length)) P.length)) P.length = none := by
    rw [← crs_eq hp plb, crs_free hp plb]
    intro z h1 h2 v hv l
    have lv := up_lt hp hv
    have f := nh_free hp (fz (hsOf (fp bs) P.length)) P.length z h1 h2 v hv
    rw [planL_at h1 h2] at l ⊢
    rw [planL_at (by omega) (by omega)]
    exact f l
  rw [free2] at q6
  have q7 := v_law_crossing hp hn hl hb
  rw [← crs_eq hp hb] at q7
  have s1 := v_same (xs := hsOf (fp bs) P.length) (.inl rfl)
  have s2 := v_sameN (l := planL (fp P) (fz (hsOf (fp bs) P.length)) P.length) (.inl rfl)
  have pdn : Dn (fp (planL (fp P) (fz (hsOf (fp bs) P.length)) P.length)) (planL (fp P) (fz (hsOf (fp bs) P.length)) P.length).length := by
    rw [pll]
    exact bas_dn hp plb
  have r1 := v_law_reads pdn (by omega)
  have r2 := v_law_reads dn (by omega)
  rw [pll] at r1
  rw [hl] at r2
  have w1 := v_law_writes hp hn pll plb
  have w2 := v_law_writes hp hn hl hb
  have e3 := e_eqTN (planL (fp P) (fz (hsOf (fp bs) P.length)) P.length) bs
  have m1 := v_most (g := fun v => rd (fp (planL (fp P) (fz (hsOf (fp bs) P.length)) P.length)) v) (h := fun v => rd (fp bs) v) (m := P.length + 1) (by omega) fun v hv => by
    have dn2 : Dn (nh (fp P) fun v => mx (fp bs) P.length + 1 - (rd (fp bs) v : Int)) P.length := fun z h1 _ => up_lt hp (nh_mem hp _ h1)
    have k := rd_nh_le hp hb (h := fun v => mx (fp bs) P.length + 1 - (rd (fp bs) v : Int)) (fun u v _ _ => by omega) (z := v) (by omega)
    rw [rd_congr (c := nh (fp P) fun v => mx (fp bs) P.length + 1 - (rd (fp bs) v : Int)) (bas_dn hp plb) dn2 (fun z h1 h2 => pl_at hp hb h1 h2) (by omega)]
    exact k
  have m2 := v_most (g := fun x => wrB (fp P) (fp (planL (fp P) (fz (hsOf (fp bs) P.length)) P.length)) P.length (x + 1)) (h := fun x => wrB (fp P) (fp bs) P.length (x + 1)) (m := P.length) (by omega) fun x _ => by
    refine wrB_le (fun z h1 h2 => ?_) (x + 1)
    have k := nh_ge hp hb (h := fun v => mx (fp bs) P.length + 1 - (rd (fp bs) v : Int)) (fun u v _ _ => by omega) h1 h2
    have a := pl_at hp hb h1 h2
    unfold pl at a
    rw [a]
    exact k
  have pf := pl_free hp hl hb
  unfold pl at pf
  generalize planL (fp P) (fz (hsOf (fp bs) P.length)) P.length = PL at *
  generalize hsOf (fp bs) P.length = HS at *
  generalize elL (fp P) P.length = EL at *
  have c : t_of (x_bin p_ne (x_bin p_eq (x_var 4) (x_var 2)) (x_bin p_is (x_call F__law_crossing [] (a_cons (x_var 1) (a_cons (x_var 2) a_nil))) (x_c .none))) [im (tN P), im (.list EL), im (tN bs), im (tZ HS), im (tN PL)] = some (false, [im (tN P), im (.list EL), im (tN bs), im (tZ HS), im (tN PL)]) := by
    rcases crsA_cases hp hn hl hb with h | ⟨v, z, h⟩
    · rw [h] at q7
      rw [decide_eq_true (pf.mpr h)] at e3
      exact bang (binI (binI (vI rfl) (vI rfl) e3) (binI (callI (aI (vI rfl) (aI (vI rfl) a0)) rfl q7) cI rfl) rfl)
    · rw [h] at q7
      rw [decide_eq_false (fun z => by rw [pf.mp z] at h; cases h)] at e3
      exact bang (binI (binI (vI rfl) (vI rfl) e3) (binI (callI (aI (vI rfl) (aI (vI rfl) a0)) rfl q7) cI rfl) rfl)
  refine runs rfl (sq (ifF (tnot (b := true) (bang (callI (aI (vI rfl) (aI (vI rfl) (aI (vI rfl) a0))) rfl q1))) rfl) (sq (setF (i := 3) (callI (aI (vI rfl) (aI (vI rfl) a0)) rfl q2) rfl rfl) (sq (ifF (tnot (b := true) (bang (callI (aI (vI rfl) (aI (callI (aI (vI rfl) a0) rfl q3) a0)) rfl s1))) rfl) (sq (setF (i := 4) (callI (aI (vI rfl) (aI (vI rfl) a0)) rfl q4) rfl rfl)
    (sq (ifF (tnot (b := true) (bang (callI (aI (vI rfl) (aI (callI (aI (vI rfl) (aI (vI rfl) a0)) rfl q5) a0)) rfl s2))) rfl) (sq (ifF (torF (bang (binI (callI (aI (vI rfl) (aI (vI rfl) a0)) rfl q6) cI rfl)) c) rfl) (sq (ifF (tnot (b := true) (bang (callI (aA (callA (aI (vI rfl) a0) rfl r1) (aA (callA (aI (vI rfl) a0) rfl r2) a0)) rfl m1))) rfl) (sr (ret (callI (aA (callA (aI (vI rfl) (aI (vI rfl) a0)) rfl w1) (aA (callA (aI (vI rfl) (aI (vI rfl) a0)) rfl w2) a0)) rfl m2))))))))))  rfl
end
end K58
namespace K58
open PySem PySem.Spec PyProof.Rows L2 DL
/-! ### records -/
theorem zip_maps : ∀ (xs ys : List Int), List.zipWith (fun a b => PyData.tuple [a, b]) (xs.map PyData.int) (ys.map PyData.int) = (xs.zip ys).map fun p => PyData.tuple [.int p.1, .int p.2]
  | [], ys => by simp
  | x :: xs, [] => by simp
  | x :: xs, y :: ys => by
    rw [List.map_cons, List.map_cons, List.zipWith_cons_cons, zip_maps xs ys, List.zip_cons_cons, List.map_cons]
theorem zip_dec : ∀ (xs ys : List Int), List.zipWith (fun x y => decide (x < y)) xs ys = (xs.zip ys).map fun p => decide (p.1 < p.2)
  | [], ys => by simp
  | x :: xs, [] => by simp
  | x :: xs, y :: ys => by
    rw [List.zipWith_cons_cons, zip_dec xs ys, List.zip_cons_cons, List.map_cons]
section
variable {bs : List Nat} (hb : Dn (fp bs) bs.length) (hn : bs.length ≤ 1000) (X Y Z T V : PyData) (s9 s10 s11 s12 : Option Sl)
include hb hn
theorem rr_loop : ∀ (l : List Nat) (v : Nat) (acc : List PyData) (s : Option Sl), l.length = rd (fp bs) v → v ≤ bs.length → acc.length + v ≤ 10000 →
    ∃ s', forGo (g_name 8) [8] (s_seq (s_drop (x_app 6 (x_var 7))) (s_seq (s_setF 7 (x_ix (x_var 1) (x_bin p_sub (x_var 7) (x_c (.int 1))))) s_nx)) (l.map nD) [im X, im (tN bs), im Y, im Z, im V, im T, ac acc, im (.int (v : Int)), s, s9, s10, s11, s12]
      = some (.nx [im X, im (tN bs), im Y, im Z, im V, im T, ac (acc ++ (ch (fp bs) v).map nD), im (.int 0), s', s9, s10, s11, s12])
  | [], v, acc, s, hl, hv, _ => by
    have h0 : v = 0 := by
      rcases Nat.eq_zero_or_pos v with h | h
      · exact h
      · rw [rd_pos hb h hv] at hl
        cases hl
    subst h0
    exact ⟨s, by simp [forGo, ch_zero]⟩
  | k :: l, v, acc, s, hl, hv, ha => by
    have h1 : 1 ≤ v := by
      rcases Nat.eq_zero_or_pos v with h | h
      · subst h
        cases hl
      · exact h
    have h2 := hb v h1 hv
    rw [rd_pos hb h1 hv, List.length_cons] at hl
    obtain ⟨s', q⟩ := rr_loop l (fp bs v) (acc ++ [nD v]) (im (nD k)) (by omega) (by omega) (by simp only [List.length_append, List.length_cons, List.length_nil]; omega)
    refine ⟨s', ?_⟩
    have kk : okLen (acc.length + 1) = true := okLen_yes (by omega)
    have b1 : s_seq (s_drop (x_app 6 (x_var 7))) (s_seq (s_setF 7 (x_ix (x_var 1) (x_bin p_sub (x_var 7) (x_c (.int 1))))) s_nx) [im X, im (tN bs), im Y, im Z, im V, im T, ac acc, im (.int (v : Int)), im (nD k), s9, s10, s11, s12] = some (.nx [im X, im (tN bs), im Y, im Z, im V, im T, ac (acc ++ [nD v]), im (.int (fp bs v : Int)), im (nD k), s9, s10, s11, s12]) := by
      have q1 := ix1 (P := bs) h1 hv
      simp [r_x_var, r_x_c, r_two, r_x_bin, r_t_of, r_t_not, r_t_and, r_t_or, r_x_and, r_x_or, r_x_not, r_x_if, r_x_chain, r_a_nil, r_a_cons, r_argsD, r_argsI, r_x_tup, r_x_lst, r_x_isi, r_x_cb, r_s_seq, r_s_nx, r_s_bk, r_s_ct, r_s_drop, r_s_ret, r_s_if, r_s_set, r_s_setF, r_x_call, r_t_yes, r_s_retN, r_i_seq, x_ix, runF, env0, finR, s_no, putA, okS, isAc, look2, lookR, frzR, lookAll, imAll, imR, isD, e_add, e_sub, e_lt, e_le, e_gt, e_ge, e_eq, e_ne, e_isnone, e_isT, e_isnotnone, e_isnotT, e_isB, e_isnotB, e_neB, e_eqB, c_len, c_tuple, c_list, c_int, r_x_app, kk, q1, nD]
    rw [List.map_cons]
    show (if okS [8] _ = true then _ else _) = _
    have ok : okS [8] [im X, im (tN bs), im Y, im Z, im V, im T, ac acc, im (.int (v : Int)), s, s9, s10, s11, s12] = true := rfl
    rw [if_pos ok]
    show (match (s_seq (s_drop (x_app 6 (x_var 7))) (s_seq (s_setF 7 (x_ix (x_var 1) (x_bin p_sub (x_var 7) (x_c (.int 1))))) s_nx) [im X, im (tN bs), im Y, im Z, im V, im T, ac acc, im (.int (v : Int)), im (nD k), s9, s10, s11, s12]) with
      | some (.nx e3) => _
      | some (.ct e3) => _
      | some (.bk e3) => _
      | some (.rt r e3) => _
      | none => _) = _
    rw [b1]
    rw [ch_pos hb h1 hv]
    have e : acc ++ (v :: ch (fp bs) (fp bs v)).map nD = acc ++ [nD v] ++ (ch (fp bs) (fp bs v)).map nD := by
      rw [List.map_cons, List.append_assoc]
      rfl
    rw [e]
    exact q
end
/-- the heights rise along a chain of the plan -/
theorem rise {p : Nat → Nat} (hp : Par p) {h : Nat → Int} {b : Nat → Nat} {n : Nat} (hb : ∀ z, 1 ≤ z → z ≤ n → b z = nh p h z) : ∀ {v : Nat}, v ≤ n →
    (List.zipWith (fun x y => decide (x < y)) ((ch b v).map h) ((ch b v).map h).tail).all id = true := by
  have dn : Dn b n := fun z h1 h2 => by
    rw [hb z h1 h2]
    exact up_lt hp (nh_mem hp h h1)
  intro v
  induction v using Nat.strongRecOn with
  | ind v ih =>
    intro hv
    by_cases h1 : 1 ≤ v
    · have lt := dn v h1 hv
      have q := ih (b v) lt (by omega)
      rw [ch_pos dn h1 hv, List.map_cons, List.tail_cons]
      by_cases h0 : b v = 0
      · rw [h0, ch_zero]
        rfl
      · rw [ch_pos dn (v := b v) (by omega) (by omega), List.map_cons, List.tail_cons] at q
        rw [ch_pos dn (v := b v) (by omega) (by omega), List.map_cons, List.zipWith_cons_cons, List.all_cons, q, Bool.and_true]
        have := nh_high hp h (v := v) (by rw [← hb v h1 hv]; exact h0)
        rw [hb v h1 hv]
        exact decide_eq_true this
    · have : v = 0 := by omega
      subst this
      rfl
section
variable {P : List Nat} (hp : Par (fp P)) (hn : P.length ≤ 1000) {hs : List Int} (hl : hs.length = P.length) (h1 : ∀ x ∈ hs, 1 ≤ x)
include hp hn hl h1
theorem v_records_right : F__law_records_right [tN P, tN (planL (fp P) (fz hs) P.length), tZ hs] = some (.im (.bool true)) := by
  have pll := planL_len (fp P) (fz hs) P.length
  have plb := planL_bas hp (fz hs) P.length
  have dn : Dn (fp (planL (fp P) (fz hs) P.length)) (planL (fp P) (fz hs) P.length).length := by
    rw [pll]
    exact bas_dn hp plb
  have q1 := v_law_reads dn (by omega)
  rw [pll] at q1
  have qr := fun (v : Nat) (hv : v ≤ P.length) => v_records hp hn hl h1 (v := v) hv
  have qc := fun (v : Nat) (hv : v ≤ P.length) => v_chain_of hp hn pll plb (v := v) hv
  have rs := fun (v : Nat) (hv : v ≤ P.length) => rise hp (h := fz hs) (b := fp (planL (fp P) (fz hs) P.length)) (fun z a1 a2 => planL_at a1 a2) hv
  have chb : ∀ v, v ≤ P.length → ∀ z ∈ ch (fp (planL (fp P) (fz hs) P.length)) v, 1 ≤ z ∧ z ≤ P.length := by
    intro v
    induction v using Nat.strongRecOn with
    | ind v ih =>
      intro hv z hz
      by_cases a1 : 1 ≤ v
      · rw [ch_pos dn a1 (by omega)] at hz
        rcases List.mem_cons.mp hz with e | m
        · omega
        · have lt := dn v a1 (by omega)
          exact ih _ lt (by omega) z m
      · have : v = 0 := by omega
        subst this
        cases hz
  have chl : ∀ v, v ≤ P.length → (ch (fp (planL (fp P) (fz hs) P.length)) v).length ≤ v := by
    intro v
    induction v using Nat.strongRecOn with
    | ind v ih =>
      intro hv
      by_cases a1 : 1 ≤ v
      · rw [ch_pos dn a1 (by omega), List.length_cons]
        have lt := dn v a1 (by omega)
        have := ih _ lt (by omega)
        omega
      · have : v = 0 := by omega
        subst this
        exact Nat.le_refl _
  generalize hPL : planL (fp P) (fz hs) P.length = PL at *
  obtain ⟨e3, g1, s4, s5, s6, s7, s8, s9, g2⟩ := forGo_inv (γ := g_name 4) (S := [4]) (fb := (s_seq (s_setF 5 (x_call F_records_of [] (a_cons (x_var 0) (a_cons (x_var 2) (a_cons (x_var 4) a_nil)))))
  (s_seq (s_set 6 (x_lst a_nil))
  (s_seq (s_setF 7 (x_var 4))
  (s_seq (s_for (i_rng1 (x_ix (x_var 3) (x_var 4))) (g_name 8) [8]
  (s_seq (s_drop (x_app 6 (x_var 7)))
  (s_seq (s_setF 7 (x_ix (x_var 1) (x_bin p_sub (x_var 7) (x_c (.int 1)))))
  s_nx)))
  (s_seq (s_fz 6 (s_if (t_or (t_not (t_of (x_call F__law_same [] (a_cons (x_var 5) (a_cons (x_var 6) a_nil))))) (t_not (t_of (x_call F__law_same [] (a_cons (x_call F_chain_of [] (a_cons (x_var 0) (a_cons (x_var 1) (a_cons (x_var 4) a_nil)))) (a_cons (x_var 6) a_nil))))))
  (s_ret (x_c (.bool false)))
  s_nx))
  (s_seq (s_setF 9 (x_lc (i_seq (x_var 5)) (g_name 10) t_yes (x_ix (x_var 2) (x_bin p_sub (x_var 10) (x_c (.int 1)))) [10]))
  (s_seq (s_if (t_not (t_of (x_cb c_all (a_cons (x_lc (i_zip (x_var 9) (x_sl (x_var 9) (o_at (x_c (.int 1))) o_no)) (g_tup [11, 12]) t_yes (x_bin p_lt (x_var 11) (x_var 12)) [11, 12]) a_nil))))
  (s_ret (x_c (.bool false)))
  s_nx)
  s_nx)))))))) nD (List.range (P.length + 1)) (fun _ e => ∃ s4 s5 s6 s7 s8 s9, e = [im (tN P), im (tN PL), im (tZ hs), im (.list (rdL (fp PL) P.length)), s4, s5, s6, s7, s8, s9, none, none, none]) [im (tN P), im (tN PL), im (tZ hs), im (.list (rdL (fp PL) P.length)), none, none, none, none, none, none, none, none, none] ⟨_, _, _, _, _, _, rfl⟩ fun pre v post hk e he => by
      obtain ⟨s4, s5, s6, s7, s8, s9, rfl⟩ := he
      have lv : v ≤ P.length := by
        have : v ∈ List.range (P.length + 1) := by rw [hk]; simp
        have := List.mem_range.mp this
        omega
      generalize hR : rdL (fp PL) P.length = RL
      have qi : p_ix (.list RL) (nD v) = some (.im (nD (rd (fp PL) v))) := by
        rw [← hR]
        exact ixR (g := fun v => nD (rd (fp PL) v)) (by omega)
      have c1 := qr v lv
      have c2 := qc v lv
      have c3 := rs v lv
      generalize hC : ch (fp PL) v = C at c1 c2 c3
      obtain ⟨s', lp⟩ := rr_loop dn (by omega) (tN P) (tZ hs) (.list RL) (tN C) (nD v) s9 none none none (List.range (rd (fp PL) v)) v [] s8 (List.length_range ..) (by omega) (by simp; omega)
      rw [hC, List.nil_append] at lp
      have sm := v_sameN (l := C) (D := lN C) (.inr rfl)
      have rl := rd_le (bas_dn hp plb) lv
      have cl := chl v lv
      rw [hC] at cl
      have cb := chb v lv
      rw [hC] at cb
      have q9 : x_lc (i_seq (x_var 5)) (g_name 10) t_yes (x_ix (x_var 2) (x_bin p_sub (x_var 10) (x_c (.int 1)))) [10] [im (tN P), im (tN PL), im (tZ hs), im (.list RL), im (nD v), im (tN C), im (lN C), im (.int 0), s', s9, none, none, none]
          = some (.ac ((C.map (fz hs)).map PyData.int), [im (tN P), im (tN PL), im (tZ hs), im (.list RL), im (nD v), im (tN C), im (lN C), im (.int 0), s', s9, none, none, none]) := by
        rw [x_lc_all (e1 := [im (tN P), im (tN PL), im (tZ hs), im (.list RL), im (nD v), im (tN C), im (lN C), im (.int 0), s', s9, none, none, none]) (ds := C.map nD) (fun d => match d with
          | .int i => .int (fz hs i.toNat)
          | _ => .none) (iseqT (vI rfl)) rfl (by rw [List.length_map]; omega) fun d hd => ?_]
        · rw [List.map_map, List.map_map]
          rfl
        · obtain ⟨z, hz, rfl⟩ := List.mem_map.mp hd
          obtain ⟨z1, z2⟩ := cb z hz
          have qz := ix1Z (P := hs) z1 (by omega)
          refine ⟨[im (tN P), im (tN PL), im (tZ hs), im (.list RL), im (nD v), im (tN C), im (lN C), im (.int 0), s', s9, im (nD z), none, none], .im (.int (fz hs z)), [im (tN P), im (tN PL), im (tZ hs), im (.list RL), im (nD v), im (tN C), im (lN C), im (.int 0), s', s9, im (nD z), none, none], rfl, ?_, rfl, rfl⟩
          exact binI (vI rfl) (binI (vI rfl) cI rfl) qz
      generalize hT : C.map (fz hs) = TL at q9 c3
      have lT : TL.length ≤ 1000 := by rw [← hT, List.length_map]; omega
      have q10 : x_lc (i_zip (x_var 9) (x_sl (x_var 9) (o_at (x_c (.int 1))) o_no)) (g_tup [11, 12]) t_yes (x_bin p_lt (x_var 11) (x_var 12)) [11, 12] [im (tN P), im (tN PL), im (tZ hs), im (.list RL), im (nD v), im (tN C), im (lN C), im (.int 0), s', im (.list (TL.map PyData.int)), none, none, none]
          = some (.ac ((List.zipWith (fun x y => decide (x < y)) TL TL.tail).map PyData.bool), [im (tN P), im (tN PL), im (tZ hs), im (.list RL), im (nD v), im (tN C), im (lN C), im (.int 0), s', im (.list (TL.map PyData.int)), none, none, none]) := by
        have ez : zipD (TL.map PyData.int) (TL.map PyData.int).tail = (TL.zip TL.tail).map fun p => PyData.tuple [.int p.1, .int p.2] := by
          rw [← List.map_tail]
          unfold zipD
          exact zip_maps TL TL.tail
        rw [x_lc_all (e1 := [im (tN P), im (tN PL), im (tZ hs), im (.list RL), im (nD v), im (tN C), im (lN C), im (.int 0), s', im (.list (TL.map PyData.int)), none, none, none]) (ds := zipD (TL.map PyData.int) (TL.map PyData.int).tail) (fun d => match d with
          | .tuple [.int i, .int j] => .bool (decide (i < j))
          | _ => .none) (by simp [r_i_zip, r_x_var, r_x_c, r_two, r_x_bin, r_t_of, r_t_not, r_t_and, r_t_or, r_x_and, r_x_or, r_x_not, r_x_if, r_x_chain, r_a_nil, r_a_cons, r_argsD, r_argsI, r_x_tup, r_x_lst, r_x_isi, r_x_cb, r_s_seq, r_s_nx, r_s_bk, r_s_ct, r_s_drop, r_s_ret, r_s_if, r_s_set, r_s_setF, r_x_call, r_t_yes, r_s_retN, r_i_seq, x_ix, runF, env0, finR, s_no, putA, okS, isAc, look2, lookR, frzR, lookAll, imAll, imR, isD, e_add, e_sub, e_lt, e_le, e_gt, e_ge, e_eq, e_ne, e_isnone, e_isT, e_isnotnone, e_isnotT, e_isB, e_isnotB, e_neB, e_eqB, c_len, c_tuple, c_list, c_int, r_x_sl, r_o_at, r_o_no, sliced, cut1]) rfl (by rw [ez, List.length_map, List.length_zip]; omega) fun d hd => ?_]
        · rw [ez, List.map_map, zip_dec]
          rw [List.map_map]
          rfl
        · rw [ez] at hd
          obtain ⟨p, _, rfl⟩ := List.mem_map.mp hd
          refine ⟨[im (tN P), im (tN PL), im (tZ hs), im (.list RL), im (nD v), im (tN C), im (lN C), im (.int 0), s', im (.list (TL.map PyData.int)), none, im (.int p.1), im (.int p.2)], .im (.bool (decide (p.1 < p.2))), [im (tN P), im (tN PL), im (tZ hs), im (.list RL), im (nD v), im (tN C), im (lN C), im (.int 0), s', im (.list (TL.map PyData.int)), none, im (.int p.1), im (.int p.2)], rfl, ?_, rfl, rfl⟩
          exact binI (vI rfl) (vI rfl) rfl
      have qa := cbA q10
      rw [c3] at qa
      refine ⟨rfl, [im (tN P), im (tN PL), im (tZ hs), im (.list RL), im (nD v), s5, s6, s7, s8, s9, none, none, none], [im (tN P), im (tN PL), im (tZ hs), im (.list RL), im (nD v), im (tN C), im (lN C), im (.int 0), s', im (.list (TL.map PyData.int)), none, none, none], rfl, .inl ?_, _, _, _, _, _, _, rfl⟩
      refine sq (setF (i := 5) (e1 := [im (tN P), im (tN PL), im (tZ hs), im (.list RL), im (nD v), s5, s6, s7, s8, s9, none, none, none]) (callI (aI (vI rfl) (aI (vI rfl) (aI (vI rfl) a0))) rfl c1) rfl rfl) (sq (setX (i := 6) (r := .ac []) (e1 := [im (tN P), im (tN PL), im (tZ hs), im (.list RL), im (nD v), im (tN C), s6, s7, s8, s9, none, none, none]) (e2 := [im (tN P), im (tN PL), im (tZ hs), im (.list RL), im (nD v), im (tN C), ac [], s7, s8, s9, none, none, none]) rfl rfl rfl) (sq (setF (i := 7) (vI rfl) rfl rfl)
        (sq (sf (i_rng1_at (m := rd (fp PL) v) (binI (vI rfl) (vI rfl) qi) (by omega)) lp) (sq (e1 := [im (tN P), im (tN PL), im (tZ hs), im (.list RL), im (nD v), im (tN C), im (lN C), im (.int 0), s', s9, none, none, none]) ?_ (sq (setF (i := 9) (d := .list (TL.map PyData.int)) q9 rfl rfl) (sq (ifF (tnot (b := true) (bang qa)) rfl) rfl))))))
      rw [r_s_fz]
      have fe : fzE 6 [im (tN P), im (tN PL), im (tZ hs), im (.list RL), im (nD v), im (tN C), ac (C.map nD), im (.int 0), s', s9, none, none, none] = [im (tN P), im (tN PL), im (tZ hs), im (.list RL), im (nD v), im (tN C), im (lN C), im (.int 0), s', s9, none, none, none] := rfl
      rw [fe]
      exact ifF (torF (tnot (b := true) (bang (callI (aI (vI rfl) (aI (vI rfl) a0)) rfl sm))) (tnot (b := true) (bang (callI (aI (callI (aI (vI rfl) (aI (vI rfl) (aI (vI rfl) a0))) rfl c2) (aI (vI rfl) a0)) rfl sm)))) rfl
  subst g2
  refine runs rfl (sq (setF (i := 3) (d := .list (rdL (fp PL) P.length)) (e1 := [im (tN P), im (tN PL), im (tZ hs), none, none, none, none, none, none, none, none, none, none]) (callA (aI (vI rfl) a0) rfl q1) rfl rfl) (sq (sf (i_rng1_at (m := P.length + 1) (e1 := [im (tN P), im (tN PL), im (tZ hs), im (.list (rdL (fp PL) P.length)), none, none, none, none, none, none, none, none, none]) ?_ (by omega)) g1) (sr (ret (r := .im (.bool true)) rfl)))) rfl
  have lr := rdL_len (fp PL) P.length
  generalize rdL (fp PL) P.length = RL at lr
  simp [r_x_var, r_x_c, r_two, r_x_bin, r_t_of, r_t_not, r_t_and, r_t_or, r_x_and, r_x_or, r_x_not, r_x_if, r_x_chain, r_a_nil, r_a_cons, r_argsD, r_argsI, r_x_tup, r_x_lst, r_x_isi, r_x_cb, r_s_seq, r_s_nx, r_s_bk, r_s_ct, r_s_drop, r_s_ret, r_s_if, r_s_set, r_s_setF, r_x_call, r_t_yes, r_s_retN, r_i_seq, x_ix, runF, env0, finR, s_no, putA, okS, isAc, look2, lookR, frzR, lookAll, imAll, imR, isD, e_add, e_sub, e_lt, e_le, e_gt, e_ge, e_eq, e_ne, e_isnone, e_isT, e_isnotnone, e_isnotT, e_isB, e_isnotB, e_neB, e_eqB, c_len, c_tuple, c_list, c_int, lr]
end
end K58
namespace K58
open PySem PySem.Spec PyProof.Rows L2 DL
/-! ### by heights -/
theorem fz_map {hs : List Int} {g : Int → Int} {v : Nat} (h1 : 1 ≤ v) (h2 : v ≤ hs.length) : fz (hs.map g) v = g (fz hs v) := by
  have q := fz_get (P := hs.map g) h1 (by rw [List.length_map]; exact h2)
  rw [List.getElem?_map, fz_get h1 h2] at q
  (exact (Option.some.inj q).symm)
theorem plan_map {p : Nat → Nat} (hp : Par p) {hs : List Int} {g : Int → Int} (mono : ∀ x ∈ hs, ∀ y ∈ hs, (x < y ↔ g x < g y)) : planL p (fz (hs.map g)) hs.length = planL p (fz hs) hs.length := by
  refine List.map_congr_left fun k hk => ?_
  have lk := List.mem_range.mp hk
  symm
  refine nh_congr fun u hu h0 => ?_
  have lu := up_lt hp hu
  rw [fz_map (by omega) (by omega), fz_map h0 (by omega)]
  exact mono _ (List.mem_of_getElem? (fz_get (P := hs) (v := k + 1) (by omega) (by omega))) _ (List.mem_of_getElem? (fz_get (P := hs) (v := u) h0 (by omega)))
section
variable {P : List Nat} (hp : Par (fp P)) (hn : P.length ≤ 1000) {hs : List Int} (hl : hs.length = P.length) (h1 : ∀ x ∈ hs, 1 ≤ x ∧ x ≤ 1000) {more : Int} (hm : 0 ≤ more)
include hp hn hl h1 hm
theorem v_by_heights : F__law_by_heights [tN P, .list (elL (fp P) P.length), tZ hs, .int more] = some (.im (.bool true)) := by
  have pll := planL_len (fp P) (fz hs) P.length
  have plb := planL_bas hp (fz hs) P.length
  have h1' : ∀ x ∈ hs, 1 ≤ x := fun x m => (h1 x m).1
  have q1 := v_bases_by hp hn hl h1'
  have q2 := v_higher (P := P) hp hn hl
  have q3 := v_is_plan hp hn pll plb
  have fr : crsA (fp P) (fp (planL (fp P) (fz hs) P.length)) P.length = none := by
    rw [crs_free hp plb]
    intro z a1 a2 v hv l
    have lv := up_lt hp hv
    have f := nh_free hp (fz hs) P.length z a1 a2 v hv
    rw [planL_at a1 a2] at l ⊢
    rw [planL_at (by omega) (by omega)]
    exact f l
  rw [fr] at q3
  have s1 := v_sameN (l := planL (fp P) (fz hs) P.length) (.inl rfl)
  have m1 := plan_map hp (hs := hs) (g := fun x => x + more) fun x _ y _ => by omega
  have m2 := plan_map hp (hs := hs) (g := fun x => x * x * 7 + more) fun x hx y hy => by
    have a := h1 x hx
    have b := h1 y hy
    constructor
    · intro l
      have c1 : x * x < y * y := Int.mul_lt_mul l (Int.le_of_lt l) (by omega) (by omega)
      omega
    · intro l
      rcases Int.lt_or_le x y with c | c
      · exact c
      · have c1 : y * y ≤ x * x := Int.mul_le_mul c c (by omega) (by omega)
        omega
  have q4 := v_bases_by hp hn (hs := hs.map fun x => x + more) (by rw [List.length_map]; exact hl) (fun y hy => by
    obtain ⟨x, hx, rfl⟩ := List.mem_map.mp hy
    have := h1 x hx
    omega)
  have q5 := v_bases_by hp hn (hs := hs.map fun x => x * x * 7 + more) (by rw [List.length_map]; exact hl) (fun y hy => by
    obtain ⟨x, hx, rfl⟩ := List.mem_map.mp hy
    have a := h1 x hx
    have c1 : 1 * 1 ≤ x * x := Int.mul_le_mul a.1 a.1 (by omega) (by omega)
    show 1 ≤ x * x * 7 + more
    omega)
  rw [hl] at m1 m2
  rw [m1] at q4
  rw [m2] at q5
  have q6 := v_heights_of hp hn pll plb
  have q7 := v_bases_by hp hn (hsOf_len (fp (planL (fp P) (fz hs) P.length)) P.length) hsOf_pos
  have e7 : planL (fp P) (fz (hsOf (fp (planL (fp P) (fz hs) P.length)) P.length)) P.length = planL (fp P) (fz hs) P.length := (pl_free hp pll plb).mpr fr
  rw [e7] at q7
  have ne := e_neTN (planL (fp P) (fz hs) P.length) (planL (fp P) (fz hs) P.length)
  rw [decide_eq_true rfl] at ne
  have rr := v_records_right hp hn hl h1'
  generalize planL (fp P) (fz hs) P.length = PL at *
  generalize hsOf (fp PL) P.length = HH at *
  generalize elL (fp P) P.length = EL at *
  have c1 : x_lc (i_seq (x_var 2)) (g_name 7) t_yes (x_bin p_add (x_var 7) (x_var 3)) [7] [im (tN P), im (.list EL), im (tZ hs), im (.int more), im (tN PL), none, none, none] = some (.ac ((hs.map fun x => x + more).map PyData.int), [im (tN P), im (.list EL), im (tZ hs), im (.int more), im (tN PL), none, none, none]) := by
    rw [x_lc_all (e1 := [im (tN P), im (.list EL), im (tZ hs), im (.int more), im (tN PL), none, none, none]) (ds := hs.map PyData.int) (fun d => match d with
      | .int i => .int (i + more)
      | _ => .none) (iseqT (vI rfl)) rfl (by rw [List.length_map]; omega) fun d hd => ?_]
    · rw [List.map_map, List.map_map]
      rfl
    · obtain ⟨x, hx, rfl⟩ := List.mem_map.mp hd
      exact ⟨[im (tN P), im (.list EL), im (tZ hs), im (.int more), im (tN PL), none, none, im (.int x)], .im (.int (x + more)), [im (tN P), im (.list EL), im (tZ hs), im (.int more), im (tN PL), none, none, im (.int x)], rfl, binI (vI rfl) (vI rfl) rfl, rfl, rfl⟩
  generalize hA : tZ (hs.map fun x => x + more) = RA at *
  have c2 : x_lc (i_seq (x_var 2)) (g_name 7) t_yes (x_bin p_add (x_bin p_mul (x_bin p_mul (x_var 7) (x_var 7)) (x_c (.int 7))) (x_var 3)) [7] [im (tN P), im (.list EL), im (tZ hs), im (.int more), im (tN PL), im RA, none, none] = some (.ac ((hs.map fun x => x * x * 7 + more).map PyData.int), [im (tN P), im (.list EL), im (tZ hs), im (.int more), im (tN PL), im RA, none, none]) := by
    rw [x_lc_all (e1 := [im (tN P), im (.list EL), im (tZ hs), im (.int more), im (tN PL), im RA, none, none]) (ds := hs.map PyData.int) (fun d => match d with
      | .int i => .int (i * i * 7 + more)
      | _ => .none) (iseqT (vI rfl)) rfl (by rw [List.length_map]; omega) fun d hd => ?_]
    · rw [List.map_map, List.map_map]
      rfl
    · obtain ⟨x, hx, rfl⟩ := List.mem_map.mp hd
      have a := h1 x hx
      exact ⟨[im (tN P), im (.list EL), im (tZ hs), im (.int more), im (tN PL), im RA, none, im (.int x)], .im (.int (x * x * 7 + more)), [im (tN P), im (.list EL), im (tZ hs), im (.int more), im (tN PL), im RA, none, im (.int x)], rfl, binI (binI (binI (vI rfl) (vI rfl) (e_mul (by omega))) cI (e_mul (by omega))) (vI rfl) rfl, rfl, rfl⟩
  have hA2 : PyData.tuple ((hs.map fun x => x + more).map PyData.int) = RA := hA
  refine runs rfl (sq (setF (i := 4) (callI (aI (vI rfl) (aI (vI rfl) a0)) rfl q1) rfl rfl) (sq (ifF (torF (tnot (b := true) (bang (callI (aI (vI rfl) (aI (callI (aI (vI rfl) (aI (vI rfl) a0)) rfl q2) a0)) rfl s1))) (bang (binI (callI (aI (vI rfl) (aI (vI rfl) a0)) rfl q3) cI rfl))) rfl)
    (sq (setF (i := 5) (d := RA) (cbT c1) rfl (by rw [hA2]; rfl)) (sq (setF (i := 6) (cbT c2) rfl rfl) (sq (ifF (torF (bang (binI (callI (aI (vI rfl) (aI (vI rfl) a0)) rfl q4) (vI rfl) ne)) (bang (binI (callI (aI (vI rfl) (aI (vI rfl) a0)) rfl q5) (vI rfl) ne))) rfl) (sq (ifF (bang (binI (callI (aI (vI rfl) (aI (callI (aI (vI rfl) (aI (vI rfl) a0)) rfl q6) a0)) rfl q7) (vI rfl) ne)) rfl) (sr (ret (callI (aI (vI rfl) (aI (vI rfl) (aI (vI rfl) a0))) rfl rr))))))))) rfl
end
/-! ### rows -/
def rowsL : List (List Int) → List (List Int) → List (List Int)
  | [], rs => rs
  | m :: ms, rs => rowsL ms (rs.flatMap fun r => m.map fun x => r ++ [x])
theorem rows_len : ∀ (ms rs : List (List Int)), (rowsL ms rs).length = rs.length * (ms.map List.length).foldr (· * ·) 1
  | [], rs => by simp [rowsL]
  | m :: ms, rs => by
    have e : (rs.flatMap fun r => m.map fun x => r ++ [x]).length = rs.length * m.length := by
      induction rs with
      | nil => simp
      | cons r rs ih =>
        rw [List.flatMap_cons, List.length_append, ih, List.length_map, List.length_cons, Nat.succ_mul]
        omega
    show (rowsL ms _).length = _
    rw [rows_len ms, e, List.map_cons, List.foldr_cons, Nat.mul_assoc]
theorem mem_rows : ∀ (ms rs : List (List Int)) (x : List Int), x ∈ rowsL ms rs ↔ ∃ r ∈ rs, ∃ t : List Int, x = r ++ t ∧ t.length = ms.length ∧ ∀ (i : Nat) (m : List Int), ms[i]? = some m → ∃ y, t[i]? = some y ∧ y ∈ m
  | [], rs, x => by
    constructor
    · intro h
      exact ⟨x, h, [], by simp, rfl, fun i m z => by simp at z⟩
    · rintro ⟨r, hr, t, e, l, _⟩
      have : t = [] := List.eq_nil_of_length_eq_zero l
      subst this
      rw [List.append_nil] at e
      rw [e]
      exact hr
  | m :: ms, rs, x => by
    show x ∈ rowsL ms _ ↔ _
    rw [mem_rows ms]
    constructor
    · rintro ⟨r, hr, t, e, l, h⟩
      obtain ⟨r0, hr0, hr⟩ := List.mem_flatMap.mp hr
      obtain ⟨y, hy, rfl⟩ := List.mem_map.mp hr
      refine ⟨r0, hr0, y :: t, by rw [e, List.append_assoc]; rfl, by rw [List.length_cons, List.length_cons, l], fun i m' z => ?_⟩
      cases i with
      | zero =>
        cases z
        exact ⟨y, rfl, hy⟩
      | succ i => exact h i m' (by simpa using z)
    · rintro ⟨r, hr, t, e, l, h⟩
      cases t with
      | nil => cases l
      | cons y t =>
        obtain ⟨y', a1, a2⟩ := h 0 m rfl
        cases a1
        refine ⟨r ++ [y], List.mem_flatMap.mpr ⟨r, hr, List.mem_map.mpr ⟨y, a2, rfl⟩⟩, t, by rw [e, List.append_assoc]; rfl, by simpa using l, fun i m' z => ?_⟩
        obtain ⟨y2, b1, b2⟩ := h (i + 1) m' (by simpa using z)
        exact ⟨y2, by simpa using b1, b2⟩
theorem rows_nodup : ∀ (ms rs : List (List Int)), (∀ m ∈ ms, m.Nodup) → rs.Nodup → (∀ r ∈ rs, ∀ s ∈ rs, r.length = s.length) → (rowsL ms rs).Nodup
  | [], rs, _, h, _ => h
  | m :: ms, rs, hm, h, hl => by
    refine rows_nodup ms _ (fun x hx => hm x (List.mem_cons_of_mem _ hx)) ?_ ?_
    · have mn := hm m List.mem_cons_self
      have go : ∀ (rs : List (List Int)), rs.Nodup → (rs.flatMap fun r => m.map fun x => r ++ [x]).Nodup := by
        intro rs
        induction rs with
        | nil =>
          intro _
          exact List.nodup_nil
        | cons r rs ih =>
          intro h
          obtain ⟨n1, n2⟩ := List.nodup_cons.mp h
          rw [List.flatMap_cons]
          refine List.nodup_append.mpr ⟨?_, ih n2, ?_⟩
          · refine List.Pairwise.map _ (fun a b ne e => ne ?_) mn
            have := List.append_cancel_left e
            simpa using this
          · intro a ha b hb e
            obtain ⟨x, _, rfl⟩ := List.mem_map.mp ha
            obtain ⟨r2, hr2, hb⟩ := List.mem_flatMap.mp hb
            obtain ⟨y, _, rfl⟩ := List.mem_map.mp hb
            have := (List.append_inj' e rfl).1
            exact n1 (by rw [this]; exact hr2)
      exact go rs h
    · intro r hr s hs
      obtain ⟨r0, a1, a2⟩ := List.mem_flatMap.mp hr
      obtain ⟨x, _, rfl⟩ := List.mem_map.mp a2
      obtain ⟨s0, b1, b2⟩ := List.mem_flatMap.mp hs
      obtain ⟨y, _, rfl⟩ := List.mem_map.mp b2
      rw [List.length_append, List.length_append, hl r0 a1 s0 b1]
      rfl
end K58
namespace K58
open PySem PySem.Spec PyProof.Rows L2 DL
theorem rowsL_app : ∀ (ms rs : List (List Int)) (m : List Int), rowsL (ms ++ [m]) rs = (rowsL ms rs).flatMap fun r => m.map fun x => r ++ [x]
  | [], rs, m => rfl
  | k :: ms, rs, m => rowsL_app ms _ m
theorem rows_bound : ∀ (ms rs : List (List Int)), (∀ m ∈ ms, m.length ≤ 5) → (rowsL ms rs).length ≤ rs.length * 5 ^ ms.length
  | [], rs, _ => by simp [rowsL]
  | m :: ms, rs, h => by
    have q := rows_bound ms (rs.flatMap fun r => m.map fun x => r ++ [x]) fun x hx => h x (List.mem_cons_of_mem _ hx)
    have hm := h m List.mem_cons_self
    have e : (rs.flatMap fun r => m.map fun x => r ++ [x]).length = rs.length * m.length := by
      have k := rows_len [m] rs
      simpa [rowsL] using k
    show (rowsL ms _).length ≤ _
    refine Nat.le_trans q ?_
    rw [e, List.length_cons, Nat.pow_succ, Nat.mul_assoc, Nat.mul_comm (5 ^ ms.length) 5]
    exact Nat.mul_le_mul_left _ (Nat.mul_le_mul_right _ hm)
theorem rows_item {ms : List (List Int)} {x : List Int} (h : x ∈ rowsL ms [[]]) : x.length = ms.length := by
  obtain ⟨r, hr, t, e, l, _⟩ := (mem_rows ms [[]] x).mp h
  rw [List.mem_singleton.mp hr, List.nil_append] at e
  rw [e, l]
theorem lt5 {k n : Nat} (h : k ≤ 5) : 5 ^ k ≤ 3125 := by
  have : (5 : Nat) ^ k ≤ 5 ^ 5 := Nat.pow_le_pow_right (by decide) h
  have e : (5 : Nat) ^ 5 = 3125 := by decide
  omega
theorem v_all_rows {ms : List (List Int)} (hm : ∀ m ∈ ms, m.length ≤ 5) (hl : ms.length ≤ 5) : F__law_all_rows [.list (ms.map fun m => .list (m.map PyData.int))] = some (.im (.list ((rowsL ms [[]]).map tI))) := by
  generalize hM : PyData.list (ms.map fun m => .list (m.map PyData.int)) = M
  obtain ⟨e3, g1, a, b, c, g2⟩ := forGo_inv (γ := g_name 2) (S := [2]) (fb := s_seq (s_set 3 (x_lst a_nil))
  (s_seq (s_for (i_seq (x_cb c_list (a_cons (x_var 1) a_nil))) (g_name 4) [4]
  (s_drop (x_ext 3 (x_lc (i_seq (x_var 2)) (g_name 5) t_yes (x_bin p_add (x_var 4) (x_tup (a_cons (x_var 5) a_nil))) [5]))))
  (s_seq (s_fz 3 (s_setF 1 (x_var 3)))
  s_nx))) (fun m : List Int => PyData.list (m.map PyData.int)) ms (fun pre e => ∃ a b c, e = [im M, im (.list ((rowsL pre [[]]).map tI)), a, b, c, none]) [im M, im (.list [tI []]), none, none, none, none] ⟨_, _, _, rfl⟩ fun pre m post hk e he => by
      obtain ⟨a, b, c, rfl⟩ := he
      have hpre : pre.length + 1 ≤ 5 := by
        have := congrArg List.length hk
        rw [List.length_append, List.length_cons] at this
        omega
      have mm : ∀ x ∈ pre, x.length ≤ 5 := fun x hx => hm x (by rw [hk]; exact List.mem_append_left _ hx)
      have m5 : m.length ≤ 5 := hm m (by rw [hk]; simp)
      have lb := rows_bound pre [[]] mm
      have l5 := lt5 (n := 0) (k := pre.length) (by omega)
      have it := fun (x : List Int) (hx : x ∈ rowsL pre [[]]) => rows_item hx
      have ra := rowsL_app pre [[]] m
      generalize rowsL pre [[]] = R at *
      have lR : R.length ≤ 3125 := by simp only [List.length_cons, List.length_nil] at lb; omega
      obtain ⟨e4, i1, s, i2⟩ := forGo_inv (γ := g_name 4) (S := [4]) (fb := s_drop (x_ext 3 (x_lc (i_seq (x_var 2)) (g_name 5) t_yes (x_bin p_add (x_var 4) (x_tup (a_cons (x_var 5) a_nil))) [5]))) tI R
        (fun pr e => ∃ s, e = [im M, im (.list (R.map tI)), im (.list (m.map PyData.int)), ac ((pr.flatMap fun r => m.map fun x => r ++ [x]).map tI), s, none]) [im M, im (.list (R.map tI)), im (.list (m.map PyData.int)), ac [], c, none] ⟨c, rfl⟩ fun pr r po hr e he => by
          obtain ⟨s, rfl⟩ := he
          have rl : r.length ≤ 5 := by
            have := it r (by rw [hr]; simp)
            omega
          have pl : pr.length ≤ 3125 := by
            have := congrArg List.length hr
            rw [List.length_append] at this
            omega
          have al : (pr.flatMap fun r => m.map fun x => r ++ [x]).length ≤ 15625 := by
            have k := rows_len [m] pr
            have k2 : (pr.flatMap fun r => m.map fun x => r ++ [x]).length = pr.length * m.length := by simpa [rowsL] using k
            rw [k2]
            have := Nat.mul_le_mul pl m5
            omega
          generalize hA : (pr.flatMap fun r => m.map fun x => r ++ [x]) = A at *
          have q : x_lc (i_seq (x_var 2)) (g_name 5) t_yes (x_bin p_add (x_var 4) (x_tup (a_cons (x_var 5) a_nil))) [5] [im M, im (.list (R.map tI)), im (.list (m.map PyData.int)), ac (A.map tI), im (tI r), none] = some (.ac ((m.map fun x => r ++ [x]).map tI), [im M, im (.list (R.map tI)), im (.list (m.map PyData.int)), ac (A.map tI), im (tI r), none]) := by
            rw [x_lc_all (e1 := [im M, im (.list (R.map tI)), im (.list (m.map PyData.int)), ac (A.map tI), im (tI r), none]) (ds := m.map PyData.int) (fun d => .tuple (r.map PyData.int ++ [d])) (iseqL (vI rfl)) rfl (by rw [List.length_map]; omega) fun d hd => ?_]
            · rw [List.map_map, List.map_map]
              congr 3
              (refine List.map_congr_left fun x _ => ?_)
              show PyData.tuple _ = PyData.tuple ((r ++ [x]).map PyData.int)
              rw [List.map_append]
              rfl
            · obtain ⟨x, hx, rfl⟩ := List.mem_map.mp hd
              have cat : p_add (tI r) (.tuple [.int x]) = some (.im (.tuple (r.map PyData.int ++ [.int x]))) := e_catT (by simp only [List.length_map, List.length_cons, List.length_nil]; omega)
              exact ⟨[im M, im (.list (R.map tI)), im (.list (m.map PyData.int)), ac (A.map tI), im (tI r), im (.int x)], .im (.tuple (r.map PyData.int ++ [.int x])), [im M, im (.list (R.map tI)), im (.list (m.map PyData.int)), ac (A.map tI), im (tI r), im (.int x)], rfl, DL.binI (vI rfl) (b := .tuple [.int x]) rfl cat, rfl, rfl⟩
          refine ⟨rfl, [im M, im (.list (R.map tI)), im (.list (m.map PyData.int)), ac (A.map tI), im (tI r), none], [im M, im (.list (R.map tI)), im (.list (m.map PyData.int)), ac (A.map tI ++ (m.map fun x => r ++ [x]).map tI), im (tI r), none], rfl, .inl (drop (r := .im .none) ?_), im (tI r), ?_⟩
          · rw [r_x_ext, q]
            have k : okLen (A.length + m.length) = true := okLen_yes (by omega)
            simp [isAc, k]
          · rw [List.flatMap_append, hA, List.flatMap_singleton, List.map_append]
      subst i2
      have lA : (R.flatMap fun r => m.map fun x => r ++ [x]) = rowsL (pre ++ [m]) [[]] := ra.symm
      rw [lA] at i1
      refine ⟨rfl, [im M, im (.list (R.map tI)), im (.list (m.map PyData.int)), b, c, none], _, rfl, .inl (sq (setX (i := 3) (r := .ac []) (e2 := [im M, im (.list (R.map tI)), im (.list (m.map PyData.int)), ac [], c, none]) rfl rfl rfl) (sq (sf (ds := R.map tI) (e1 := [im M, im (.list (R.map tI)), im (.list (m.map PyData.int)), ac [], c, none]) (iseqA ?_) i1) (sq (by rw [r_s_fz]; exact setF (i := 1) (d := .list ((rowsL (pre ++ [m]) [[]]).map tI)) (r := .im (.list ((rowsL (pre ++ [m]) [[]]).map tI))) (vI rfl) rfl rfl) rfl))), _, _, _, rfl⟩
      simp [r_x_var, r_x_c, r_two, r_x_bin, r_t_of, r_t_not, r_t_and, r_t_or, r_x_and, r_x_or, r_x_not, r_x_if, r_x_chain, r_a_nil, r_a_cons, r_argsD, r_argsI, r_x_tup, r_x_lst, r_x_isi, r_x_cb, r_s_seq, r_s_nx, r_s_bk, r_s_ct, r_s_drop, r_s_ret, r_s_if, r_s_set, r_s_setF, r_x_call, r_t_yes, r_s_retN, r_i_seq, x_ix, runF, env0, finR, s_no, putA, okS, isAc, look2, lookR, frzR, lookAll, imAll, imR, isD, e_add, e_sub, e_lt, e_le, e_gt, e_ge, e_eq, e_ne, e_isnone, e_isT, e_isnotnone, e_isnotT, e_isB, e_isnotB, e_neB, e_eqB, c_len, c_tuple, c_list, c_int]
  subst g2
  have hM2 : x_var 0 [im M, im (.list [tI []]), none, none, none, none] = some (.im (.list (ms.map fun m => .list (m.map PyData.int))), [im M, im (.list [tI []]), none, none, none, none]) := by rw [hM]; rfl
  exact runs rfl (sq (setF (i := 1) (d := .list [tI []]) (r := .ac [tI []]) rfl rfl rfl) (sq (sf (iseqL hM2) g1) (sr (ret (vI rfl))))) rfl
end K58
namespace K58
open PySem PySem.Spec PyProof.Rows L2 DL
/-! ### all rows of bases -/
def menus (p : Nat → Nat) (n : Nat) : List (List Int) := (List.range n).map fun k => iN (up p (k + 1))
def toN (r : List Int) : List Nat := r.map Int.toNat
def rowN (p : Nat → Nat) (n : Nat) : List (List Nat) := (rowsL (menus p n) [[]]).map toN
theorem menus_len (p : Nat → Nat) (n : Nat) : (menus p n).length = n := by
  unfold menus
  (rw [List.length_map, List.length_range])
theorem menus_at {p : Nat → Nat} {n k : Nat} (h : k < n) : (menus p n)[k]? = some (iN (up p (k + 1))) := by
  unfold menus
  rw [List.getElem?_map, List.getElem?_range h]
  rfl
theorem row_back {p : Nat → Nat} {n : Nat} {r : List Int} (h : r ∈ rowsL (menus p n) [[]]) : iN (toN r) = r ∧ (toN r).length = n ∧ Bas p (fp (toN r)) n := by
  obtain ⟨r0, hr, t, e, l, q⟩ := (mem_rows _ [[]] r).mp h
  rw [List.mem_singleton.mp hr, List.nil_append] at e
  subst e
  rw [menus_len] at l
  have at_ : ∀ k, k < n → ∃ u, u ∈ up p (k + 1) ∧ r[k]? = some ((u : Nat) : Int) := fun k hk => by
    obtain ⟨y, y1, y2⟩ := q k _ (menus_at hk)
    obtain ⟨u, u1, u2⟩ := List.mem_map.mp y2
    exact ⟨u, u1, by rw [y1, ← u2]⟩
  have ln : (toN r).length = n := by
    unfold toN
    rw [List.length_map, l]
  refine ⟨List.ext_getElem? fun k => ?_, ln, fun z h1 h2 => ?_⟩
  · unfold iN toN
    (rw [List.getElem?_map, List.getElem?_map])
    by_cases hk : k < n
    · obtain ⟨u, u1, u2⟩ := at_ k hk
      rw [u2]
      simp
    · rw [List.getElem?_eq_none (by omega)]
      rfl
  · obtain ⟨u, u1, u2⟩ := at_ (z - 1) (by omega)
    rw [Nat.sub_add_cancel h1] at u1
    have g := fp_get (P := toN r) h1 (by omega)
    unfold toN at g
    rw [List.getElem?_map, u2] at g
    have e : u = fp (toN r) z := by
      have := Option.some.inj g
      simpa [toN] using this
    rw [← e]
    exact u1
theorem row_fwd {p : Nat → Nat} {n : Nat} {bs : List Nat} (hl : bs.length = n) (hb : Bas p (fp bs) n) : iN bs ∈ rowsL (menus p n) [[]] := by
  refine (mem_rows _ [[]] _).mpr ⟨[], List.mem_singleton.mpr rfl, iN bs, rfl, by unfold iN; rw [List.length_map, menus_len, hl], fun k m hk => ?_⟩
  have lk : k < n := by
    have := (List.getElem?_eq_some_iff.mp hk).1
    rw [menus_len] at this
    exact this
  rw [menus_at lk] at hk
  cases hk
  refine ⟨(fp bs (k + 1) : Int), ?_, mem_iN.mpr (hb (k + 1) (by omega) (by omega))⟩
  have g := fp_get (P := bs) (v := k + 1) (by omega) (by omega)
  rw [Nat.add_sub_cancel] at g
  unfold iN
  rw [List.getElem?_map, g]
  rfl
theorem toN_iN (bs : List Nat) : toN (iN bs) = bs := by
  unfold toN iN
  rw [List.map_map]
  have : (Int.toNat ∘ fun (n : Nat) => (n : Int)) = id := by
    funext n
    simp
  rw [this, List.map_id]
theorem mem_rowN {p : Nat → Nat} {n : Nat} {bs : List Nat} : bs ∈ rowN p n ↔ bs.length = n ∧ Bas p (fp bs) n := by
  constructor
  · intro h
    obtain ⟨r, hr, rfl⟩ := List.mem_map.mp h
    exact (row_back hr).2
  · rintro ⟨h1, h2⟩
    exact List.mem_map.mpr ⟨iN bs, row_fwd h1 h2, toN_iN bs⟩
theorem rowN_data (p : Nat → Nat) (n : Nat) : (rowN p n).map (fun bs => tN bs) = (rowsL (menus p n) [[]]).map tI := by
  unfold rowN
  rw [List.map_map]
  refine List.map_congr_left fun r hr => ?_
  show PyData.tuple ((toN r).map nD) = PyData.tuple (r.map PyData.int)
  rw [map_nD, (row_back hr).1]
theorem iN_nodup {l : List Nat} (h : l.Nodup) : (iN l).Nodup := List.Pairwise.map _ (fun a b ne e => ne (by omega)) h
theorem up_nodup {p : Nat → Nat} (hp : Par p) (v : Nat) : (up p v).Nodup := (up_sorted hp v).imp fun h => by omega
theorem rowN_nodup {p : Nat → Nat} (hp : Par p) (n : Nat) : (rowN p n).Nodup := by
  have q := rows_nodup (menus p n) [[]] (fun m hm => by
    obtain ⟨k, _, rfl⟩ := List.mem_map.mp hm
    exact iN_nodup (up_nodup hp _)) (List.nodup_cons.mpr ⟨by simp, List.nodup_nil⟩) fun r hr s hs => by rw [List.mem_singleton.mp hr, List.mem_singleton.mp hs]
  unfold rowN
  have go : ∀ (l : List (List Int)), (∀ r ∈ l, iN (toN r) = r) → l.Nodup → (l.map toN).Nodup := by
    intro l
    induction l with
    | nil =>
      intro _ _
      exact List.nodup_nil
    | cons r l ih =>
      intro h hn
      obtain ⟨n1, n2⟩ := List.nodup_cons.mp hn
      refine List.nodup_cons.mpr ⟨fun m => ?_, ih (fun x hx => h x (List.mem_cons_of_mem _ hx)) n2⟩
      obtain ⟨s, hs, e⟩ := List.mem_map.mp m
      have e2 : s = r := by rw [← h r List.mem_cons_self, ← h s (List.mem_cons_of_mem _ hs), e]
      exact n1 (by rw [← e2]; exact hs)
  exact go _ (fun r hr => (row_back hr).1) q
theorem rowN_len {p : Nat → Nat} (hp : Par p) {n : Nat} (h : n ≤ 4) : (rowN p n).length ≤ 24 := by
  unfold rowN
  rw [List.length_map, rows_len]
  have l := fun v => up_len hp v
  have li : ∀ v, (iN (up p v)).length ≤ v := fun v => by
    unfold iN
    rw [List.length_map]
    exact l v
  have a1 := li 1
  have a2 := li 2
  have a3 := li 3
  have a4 := li 4
  match n, h with
  | 0, _ =>
    show 1 ≤ 24
    omega
  | 1, _ =>
    show 1 * ((iN (up p 1)).length * 1) ≤ 24
    omega
  | 2, _ =>
    show 1 * ((iN (up p 1)).length * ((iN (up p 2)).length * 1)) ≤ 24
    have := Nat.mul_le_mul a1 a2
    rw [Nat.mul_one]
    omega
  | 3, _ =>
    show 1 * ((iN (up p 1)).length * ((iN (up p 2)).length * ((iN (up p 3)).length * 1))) ≤ 24
    have b1 := Nat.mul_le_mul a2 a3
    have := Nat.mul_le_mul a1 b1
    rw [Nat.mul_one]
    omega
  | 4, _ =>
    show 1 * ((iN (up p 1)).length * ((iN (up p 2)).length * ((iN (up p 3)).length * ((iN (up p 4)).length * 1)))) ≤ 24
    have b1 := Nat.mul_le_mul a3 a4
    have b2 := Nat.mul_le_mul a2 b1
    have := Nat.mul_le_mul a1 b2
    rw [Nat.mul_one]
    omega
/-! every second row -/
theorem pickD_map {α β : Type} (f : α → β) (xs : List α) (c : Int) : pickD (xs.map f) none none c = (pickD xs none none c).map f := by
  unfold pickD
  rw [List.length_map, List.map_filterMap]
  congr 1
  funext i
  rw [List.getElem?_map]
theorem pickD_mem {α : Type} {xs : List α} {c : Int} {x : α} (h : x ∈ pickD xs none none c) : x ∈ xs := by
  obtain ⟨i, _, e⟩ := List.mem_filterMap.mp h
  exact List.mem_of_getElem? e
theorem pickD_len {α : Type} (xs : List α) (c : Int) : (pickD xs none none c).length ≤ (pickI none none c xs.length).length := List.length_filterMap_le _ _
theorem pick2 (N : Nat) : pickI none none 2 N = (List.range ((N + 1) / 2)).map fun k => 2 * k := by
  have e : pickI none none 2 N = sliceRange 0 (N : Int) 2 := rfl
  rw [e]
  unfold sliceRange
  by_cases h : 0 < N
  · have c : (if (2 : Int) > 0 then (if (0 : Int) < (N : Int) then ((N : Int) - 0 + 2 - 1) / 2 else 0) else (if (0 : Int) > (N : Int) then (0 - (N : Int) - 2 - 1) / (-2) else 0)) = (((N + 1) / 2 : Nat) : Int) := by
      rw [if_pos (by decide), if_pos (by omega)]
      omega
    simp only [c]
    rw [Int.toNat_natCast]
    (refine List.map_congr_left fun k _ => ?_)
    omega
  · have : N = 0 := by omega
    subst this
    rfl
theorem pick2_first {α : Type} {xs : List α} {x : α} (h : xs[0]? = some x) : x ∈ pickD xs none none 2 := by
  have l := (List.getElem?_eq_some_iff.mp h).1
  refine List.mem_filterMap.mpr ⟨0, ?_, h⟩
  rw [pick2]
  exact List.mem_map.mpr ⟨0, List.mem_range.mpr (by omega), rfl⟩
theorem rows_head : ∀ (ms : List (List Int)) (r : List Int) (rs : List (List Int)), (∀ m ∈ ms, m ≠ []) → (rowsL ms (r :: rs))[0]? = some (r ++ ms.map fun m => m.headD 0)
  | [], r, rs, _ => by simp [rowsL]
  | m :: ms, r, rs, h => by
    have hm := h m List.mem_cons_self
    cases m with
    | nil => exact absurd rfl hm
    | cons x m =>
      show (rowsL ms ((r :: rs).flatMap fun r => (x :: m).map fun x => r ++ [x]))[0]? = _
      rw [List.flatMap_cons, List.map_cons, List.cons_append, rows_head ms (r ++ [x]) _ fun k hk => h k (List.mem_cons_of_mem _ hk), List.append_assoc]
      rfl
theorem rowN_first {P : List Nat} (hp : Par (fp P)) : (rowN (fp P) P.length)[0]? = some P := by
  unfold rowN
  rw [List.getElem?_map, rows_head]
  · show some (toN ([] ++ (menus (fp P) P.length).map fun m => m.headD 0)) = _
    congr 1
    unfold menus toN
    rw [List.nil_append, List.map_map, List.map_map]
    (refine List.ext_getElem? fun k => ?_)
    rw [List.getElem?_map]
    by_cases hk : k < P.length
    · have g := fp_get (P := P) (v := k + 1) (by omega) (by omega)
      rw [Nat.add_sub_cancel] at g
      rw [List.getElem?_range hk, g]
      show some ((((iN (up (fp P) (k + 1))).headD 0)).toNat) = _
      rw [up_pos hp (v := k + 1) (by omega)]
      rfl
    · rw [List.getElem?_eq_none (by rw [List.length_range]; omega), List.getElem?_eq_none (by omega)]
      rfl
  · intro m hm e
    obtain ⟨k, _, rfl⟩ := List.mem_map.mp hm
    rw [up_pos hp (v := k + 1) (by omega)] at e
    cases e
theorem free_self {p : Nat → Nat} (hp : Par p) (n : Nat) : Free p p n := by
  intro z h1 h2 v hv l
  rw [up_pos hp h1] at hv
  rcases List.mem_cons.mp hv with e | m
  · omega
  · have := up_lt hp m
    omega
theorem bas_self {p : Nat → Nat} (hp : Par p) (n : Nat) : Bas p p n := fun z h1 h2 => by
  rw [up_pos hp h1]
  exact List.mem_cons_self
end K58
namespace K58
open PySem PySem.Spec PySem.W PyProof.Rows L2 DL
/-! ### the small trees -/
def fre (p : Nat → Nat) (n : Nat) (bs : List Nat) : Bool := (crsA p (fp bs) n).isNone
def menuI (n : Nat) : List Int := (List.range n).map fun (j : Nat) => 1 + (j : Int)
def hgts (n : Nat) : List (List Int) := rowsL (List.replicate n (menuI n)) [[]]
theorem hgts_at {n : Nat} {h : List Int} (m : h ∈ hgts n) : h.length = n := by
  have := rows_item m
  rw [List.length_replicate] at this
  exact this
theorem hgts_has {p : Nat → Nat} (hp : Par p) {bs : List Nat} {n : Nat} (hb : Bas p (fp bs) n) : hsOf (fp bs) n ∈ hgts n := by
  refine (mem_rows _ [[]] _).mpr ⟨[], List.mem_singleton.mpr rfl, hsOf (fp bs) n, rfl, by rw [hsOf_len, List.length_replicate], fun k m hk => ?_⟩
  have lk : k < n := by
    have := (List.getElem?_eq_some_iff.mp hk).1
    rw [List.length_replicate] at this
    exact this
  rw [List.getElem?_replicate, if_pos lk] at hk
  cases hk
  have g := fz_get (P := hsOf (fp bs) n) (v := k + 1) (by omega) (by rw [hsOf_len]; omega)
  rw [Nat.add_sub_cancel] at g
  refine ⟨_, g, ?_⟩
  rw [hsOf_at (by omega) (by omega)]
  have r1 := rd_pos (bas_dn hp hb) (v := k + 1) (by omega) (by omega)
  have r2 := rd_mx (b := fp bs) (m := n) (v := k + 1) (by omega)
  have r3 := mx_le (bas_dn hp hb)
  unfold menuI
  exact List.mem_map.mpr ⟨(mx (fp bs) n - (rd (fp bs) (k + 1) : Int)).toNat, List.mem_range.mpr (by omega), by omega⟩
/-- the plans by all heights are the free bases -/
theorem plans_all {P : List Nat} (hp : Par (fp P)) (bs : List Nat) : bs ∈ (rowN (fp P) P.length).filter (fre (fp P) P.length) ↔ ∃ h ∈ hgts P.length, planL (fp P) (fz h) P.length = bs := by
  rw [List.mem_filter, mem_rowN]
  constructor
  · rintro ⟨⟨h1, h2⟩, h3⟩
    refine ⟨hsOf (fp bs) P.length, hgts_has hp h2, ?_⟩
    exact (pl_free hp h1 h2).mpr (Option.isNone_iff_eq_none.mp h3)
  · rintro ⟨h, hh, rfl⟩
    have plb := planL_bas hp (fz h) P.length
    refine ⟨⟨planL_len _ _ _, plb⟩, Option.isNone_iff_eq_none.mpr ?_⟩
    rw [crs_free hp plb]
    intro z a1 a2 v hv l
    have lv := up_lt hp hv
    have f := nh_free hp (fz h) P.length z a1 a2 v hv
    rw [planL_at a1 a2] at l ⊢
    rw [planL_at (by omega) (by omega)]
    exact f l
theorem eq_tups (ks : List (List Int)) : p_eq (.list (ks.map tI)) (.list (ks.map tI)) = some (.im (.bool true)) := by
  have c : ∀ ks : List (List Int), PyData.canLayAll0 (ks.map tI) = true ∧ PyData.depthAll (ks.map tI) ≤ 1 ∧ PyData.eqvAll (ks.map tI) (ks.map tI) = true := by
    intro ks
    induction ks with
    | nil => exact ⟨by simp [PyData.canLayAll0], by simp [PyData.depthAll], by simp [PyData.eqvAll]⟩
    | cons k ks ih =>
      obtain ⟨a, b, c⟩ := ih
      have s := (DL.shaped_ints k).1
      have s1 := (Bool.and_eq_true_iff.mp s).1
      have e1 : PyData.eqv (tI k) (tI k) = true := by
        show PyData.eqvAll (k.map PyData.int) (k.map PyData.int) = true
        rw [eqv_ints, decide_eq_true rfl]
      have d1 := depth_tI k
      refine ⟨?_, ?_, ?_⟩
      · rw [List.map_cons, PyData.canLayAll0, a, Bool.and_true]
        exact s1
      · rw [List.map_cons, PyData.depthAll]
        omega
      · rw [List.map_cons, PyData.eqvAll, c, e1]
        rfl
  obtain ⟨a, b, d⟩ := c ks
  have s : SeqAt.shaped (.list (ks.map tI)) = true := by
    unfold SeqAt.shaped
    rw [Bool.and_eq_true, PyData.canLay0, decide_eq_true_eq]
    refine ⟨a, ?_⟩
    show PyData.depthAll (ks.map tI) + 1 ≤ 64
    omega
  unfold p_eq
  rw [s]
  show some (Rs.im (.bool (PyData.eqvAll _ _))) = _
  rw [d]
theorem tN_tI (l : List Nat) : tN l = tI (iN l) := by
  show PyData.tuple (l.map nD) = PyData.tuple ((iN l).map PyData.int)
  rw [map_nD]
theorem okT_len {ks : List (List Int)} {n : Nat} (h : ∀ k ∈ ks, k.length = n) (h0 : n = 0 → ks.length ≤ 1) : okT ks = true := by
  unfold okT
  rw [Bool.or_eq_true, decide_eq_true_eq]
  by_cases c : n = 0
  · exact .inl (h0 c)
  · refine .inr (List.all_eq_true.mpr fun k hk => ?_)
    have := h k hk
    cases k with
    | nil => exact absurd this.symm c
    | cons _ _ => rfl
theorem unI_tup (k : List Int) (ks : List (List Int)) : unI ((k :: ks).map tI) = none := rfl
theorem rep_flat {α : Type} (d : α) : ∀ n, (List.replicate n [d]).flatten = List.replicate n d
  | 0 => rfl
  | n + 1 => by rw [List.replicate_succ, List.flatten_cons, rep_flat d n, List.replicate_succ]; rfl
section
variable {P : List Nat} (hp : Par (fp P)) (hn : P.length ≤ 5)
include hp hn
/-- the rows that are tried -/
theorem tried_loop (RD : PyData) : ∀ (RN : List (List Nat)), RN.length ≤ 4000 → (∀ bs ∈ RN, bs.length = P.length ∧ Bas (fp P) (fp bs) P.length) →
    ∃ s4, forGo (g_name 4) [4] (s_seq (s_if (t_not (t_of (x_call F__law_led_right [] (a_cons (x_var 0) (a_cons (x_var 1) (a_cons (x_var 4) a_nil)))))) (s_ret (x_c (.bool false))) s_nx)
      (s_seq (s_if (t_of (x_bin p_is (x_call F__law_crossing [] (a_cons (x_var 1) (a_cons (x_var 4) a_nil))) (x_c .none))) (s_drop (x_app 2 (x_var 4))) s_nx) s_nx)) (RN.map fun bs => tN bs)
      [im (tN P), im (.list (elL (fp P) P.length)), ac [], im RD, none, none, none, none] = some (.nx [im (tN P), im (.list (elL (fp P) P.length)), ac ((RN.filter (fre (fp P) P.length)).map fun bs => tN bs), im RD, s4, none, none, none]) := by
  intro RN hlen hv
  obtain ⟨e3, g1, s, g2⟩ := forGo_inv (γ := g_name 4) (S := [4]) (fb := s_seq (s_if (t_not (t_of (x_call F__law_led_right [] (a_cons (x_var 0) (a_cons (x_var 1) (a_cons (x_var 4) a_nil)))))) (s_ret (x_c (.bool false))) s_nx)
      (s_seq (s_if (t_of (x_bin p_is (x_call F__law_crossing [] (a_cons (x_var 1) (a_cons (x_var 4) a_nil))) (x_c .none))) (s_drop (x_app 2 (x_var 4))) s_nx) s_nx)) (fun bs : List Nat => tN bs) RN
      (fun pre e => ∃ s, e = [im (tN P), im (.list (elL (fp P) P.length)), ac ((pre.filter (fre (fp P) P.length)).map fun bs => tN bs), im RD, s, none, none, none]) [im (tN P), im (.list (elL (fp P) P.length)), ac [], im RD, none, none, none, none] ⟨none, rfl⟩ fun pre bs post hk e he => by
        obtain ⟨s, rfl⟩ := he
        obtain ⟨bl, bb⟩ := hv bs (by rw [hk]; simp)
        have q1 := v_led hp (by omega) bl bb
        have q2 := v_law_crossing hp (by omega) bl bb
        rw [← crs_eq hp bb] at q2
        have lp : (pre.filter (fre (fp P) P.length)).length ≤ 4000 := by
          have := List.length_filter_le (fre (fp P) P.length) pre
          have := congrArg List.length hk
          rw [List.length_append] at this
          omega
        generalize hA : pre.filter (fre (fp P) P.length) = A at *
        have kk : okLen (A.length + 1) = true := okLen_yes (by omega)
        rcases crsA_cases hp (by omega) bl bb with h | ⟨v, z, h⟩
        · have f : fre (fp P) P.length bs = true := by
            unfold fre
            rw [h]
            rfl
          rw [h] at q2
          refine ⟨rfl, [im (tN P), im (.list (elL (fp P) P.length)), ac (A.map fun bs => tN bs), im RD, im (tN bs), none, none, none], [im (tN P), im (.list (elL (fp P) P.length)), ac (A.map (fun bs => tN bs) ++ [tN bs]), im RD, im (tN bs), none, none, none], rfl, .inl (sq (ifF (tnot (b := true) (bang (callI (aI (vI rfl) (aI (vI rfl) (aI (vI rfl) a0))) rfl q1))) rfl) (sq (ifT (bang (binI (callI (aI (vI rfl) (aI (vI rfl) a0)) rfl q2) cI rfl)) (drop (r := .im .none) ?_)) rfl)), im (tN bs), ?_⟩
          · simp [r_x_app, r_x_var, r_x_c, r_two, r_x_bin, r_t_of, r_t_not, r_t_and, r_t_or, r_x_and, r_x_or, r_x_not, r_x_if, r_x_chain, r_a_nil, r_a_cons, r_argsD, r_argsI, r_x_tup, r_x_lst, r_x_isi, r_x_cb, r_s_seq, r_s_nx, r_s_bk, r_s_ct, r_s_drop, r_s_ret, r_s_if, r_s_set, r_s_setF, r_x_call, r_t_yes, r_s_retN, r_i_seq, x_ix, runF, env0, finR, s_no, putA, okS, isAc, look2, lookR, frzR, lookAll, imAll, imR, isD, e_add, e_sub, e_lt, e_le, e_gt, e_ge, e_eq, e_ne, e_isnone, e_isT, e_isnotnone, e_isnotT, e_isB, e_isnotB, e_neB, e_eqB, c_len, c_tuple, c_list, c_int, kk]
          · rw [List.filter_append, List.filter_cons_of_pos f, hA]
            simp
        · have f : ¬ fre (fp P) P.length bs = true := by
            unfold fre
            rw [h]
            simp
          rw [h] at q2
          refine ⟨rfl, [im (tN P), im (.list (elL (fp P) P.length)), ac (A.map fun bs => tN bs), im RD, im (tN bs), none, none, none], _, rfl, .inl (sq (ifF (tnot (b := true) (bang (callI (aI (vI rfl) (aI (vI rfl) (aI (vI rfl) a0))) rfl q1))) rfl) (sq (ifF (bang (binI (callI (aI (vI rfl) (aI (vI rfl) a0)) rfl q2) cI rfl)) rfl) rfl)), im (tN bs), ?_⟩
          rw [List.filter_append, List.filter_cons_of_neg f, hA]
          simp
  subst g2
  exact ⟨s, g1⟩
end
end K58
namespace K58
open PySem PySem.Spec PySem.W PyProof.Rows L2 DL
section
variable {P : List Nat} (hp : Par (fp P)) (hn : P.length ≤ 5)
include hp hn
theorem v_small : F__law_small [tN P] = some (.im (.bool true)) := by
  have q1 := v_elders hp (by omega)
  have q2 := v_all_rows (ms := menus (fp P) P.length) (fun m hm => by
    obtain ⟨k, hk, rfl⟩ := List.mem_map.mp hm
    have := up_len hp (k + 1)
    have := List.mem_range.mp hk
    unfold iN
    rw [List.length_map]
    omega) (by rw [menus_len]; exact hn)
  have eE : (elL (fp P) P.length).tail = (menus (fp P) P.length).map fun m => PyData.list (m.map PyData.int) := by
    unfold elL menus
    rw [List.range_succ_eq_map, List.map_cons, List.tail_cons, List.map_map, List.map_map]
    (refine List.map_congr_left fun k _ => ?_)
    show PyData.list ((up (fp P) (k + 1)).map nD) = PyData.list ((iN (up (fp P) (k + 1))).map PyData.int)
    rw [map_nD]
  rw [← eE, ← rowN_data] at q2
  have lb := rows_bound (menus (fp P) P.length) [[]] (fun m hm => by
    obtain ⟨k, hk, rfl⟩ := List.mem_map.mp hm
    have := up_len hp (k + 1)
    have := List.mem_range.mp hk
    unfold iN
    rw [List.length_map]
    omega)
  have l5 := lt5 (n := 0) (k := (menus (fp P) P.length).length) (by rw [menus_len]; exact hn)
  have lR : (rowN (fp P) P.length).length ≤ 3125 := by
    unfold rowN
    rw [List.length_map]
    simp only [List.length_cons, List.length_nil] at lb
    omega
  have first := rowN_first hp
  -- the rows that are tried
  obtain ⟨RN, rn1, rn2, rn3, rn4, rn5⟩ : ∃ RN : List (List Nat), RN.length ≤ 3125 ∧ (∀ bs ∈ RN, bs ∈ rowN (fp P) P.length) ∧ P ∈ RN ∧ (P.length ≤ 4 → RN = rowN (fp P) P.length) ∧
      s_if (t_of (x_bin p_gt (x_cb c_len (a_cons (x_var 3) a_nil)) (x_c (.int 60)))) (s_setF 3 (x_stp 2 (x_var 3) o_no o_no)) s_nx [im (tN P), im (.list (elL (fp P) P.length)), ac [], im (.list ((rowN (fp P) P.length).map fun bs => tN bs)), none, none, none, none]
        = some (.nx [im (tN P), im (.list (elL (fp P) P.length)), ac [], im (.list (RN.map fun bs => tN bs)), none, none, none, none]) := by
    generalize hE : elL (fp P) P.length = EL
    by_cases c : 60 < (rowN (fp P) P.length).length
    · refine ⟨pickD (rowN (fp P) P.length) none none 2, ?_, fun bs h => pickD_mem h, pick2_first first, fun h4 => ?_, ifT (e1 := [im (tN P), im (.list EL), ac [], im (.list ((rowN (fp P) P.length).map fun bs => tN bs)), none, none, none, none]) ?_ ?_⟩
      · have a := pickD_len (rowN (fp P) P.length) 2
        rw [pick2, List.length_map, List.length_range] at a
        omega
      · have := rowN_len hp h4
        omega
      · generalize rowN (fp P) P.length = RR at *
        have c2 : (60 : Int) < (RR.length : Int) := by omega
        simp [r_x_var, r_x_c, r_two, r_x_bin, r_t_of, r_t_not, r_t_and, r_t_or, r_x_and, r_x_or, r_x_not, r_x_if, r_x_chain, r_a_nil, r_a_cons, r_argsD, r_argsI, r_x_tup, r_x_lst, r_x_isi, r_x_cb, r_s_seq, r_s_nx, r_s_bk, r_s_ct, r_s_drop, r_s_ret, r_s_if, r_s_set, r_s_setF, r_x_call, r_t_yes, r_s_retN, r_i_seq, x_ix, runF, env0, finR, s_no, putA, okS, isAc, look2, lookR, frzR, lookAll, imAll, imR, isD, e_add, e_sub, e_lt, e_le, e_gt, e_ge, e_eq, e_ne, e_isnone, e_isT, e_isnotnone, e_isnotT, e_isB, e_isnotB, e_neB, e_eqB, c_len, c_tuple, c_list, c_int, c2]
      · have a := pickD_len (rowN (fp P) P.length) 2
        rw [pick2, List.length_map, List.length_range] at a
        have e := pickD_map (fun bs : List Nat => tN bs) (rowN (fp P) P.length) 2
        generalize rowN (fp P) P.length = RR at *
        refine setF (i := 3) (d := .list ((pickD RR none none 2).map fun bs => tN bs)) (r := .ac ((pickD RR none none 2).map fun bs => tN bs)) (e1 := [im (tN P), im (.list EL), ac [], im (.list (RR.map fun bs => tN bs)), none, none, none, none]) ?_ rfl rfl
        rw [r_x_stp]
        have k : okLen (pickD (RR.map fun bs => tN bs) none none 2).length = true := okLen_yes (by rw [e, List.length_map]; omega)
        have v3 : x_var 3 [im (tN P), im (.list EL), ac [], im (.list (RR.map fun bs => tN bs)), none, none, none, none] = some (.im (.list (RR.map fun bs => tN bs)), [im (tN P), im (.list EL), ac [], im (.list (RR.map fun bs => tN bs)), none, none, none, none]) := rfl
        rw [v3]
        show (if okLen (pickD (RR.map fun bs => tN bs) none none 2).length = true then some (Rs.ac (pickD (RR.map fun bs => tN bs) none none 2), _) else none) = _
        rw [if_pos k, e]
    · refine ⟨rowN (fp P) P.length, lR, fun bs h => h, List.mem_of_getElem? first, fun _ => rfl, ifF (e1 := [im (tN P), im (.list EL), ac [], im (.list ((rowN (fp P) P.length).map fun bs => tN bs)), none, none, none, none]) ?_ rfl⟩
      generalize rowN (fp P) P.length = RR at *
      simp [r_x_var, r_x_c, r_two, r_x_bin, r_t_of, r_t_not, r_t_and, r_t_or, r_x_and, r_x_or, r_x_not, r_x_if, r_x_chain, r_a_nil, r_a_cons, r_argsD, r_argsI, r_x_tup, r_x_lst, r_x_isi, r_x_cb, r_s_seq, r_s_nx, r_s_bk, r_s_ct, r_s_drop, r_s_ret, r_s_if, r_s_set, r_s_setF, r_x_call, r_t_yes, r_s_retN, r_i_seq, x_ix, runF, env0, finR, s_no, putA, okS, isAc, look2, lookR, frzR, lookAll, imAll, imR, isD, e_add, e_sub, e_lt, e_le, e_gt, e_ge, e_eq, e_ne, e_isnone, e_isT, e_isnotnone, e_isnotT, e_isB, e_isnotB, e_neB, e_eqB, c_len, c_tuple, c_list, c_int]
      omega
  have valid : ∀ bs ∈ RN, bs.length = P.length ∧ Bas (fp P) (fp bs) P.length := fun bs h => mem_rowN.mp (rn2 bs h)
  obtain ⟨s4, lp⟩ := tried_loop hp hn (.list (RN.map fun bs => tN bs)) RN (by omega) valid
  have self : P ∈ RN.filter (fre (fp P) P.length) := by
    refine List.mem_filter.mpr ⟨rn3, Option.isNone_iff_eq_none.mpr ?_⟩
    have b := bas_self hp P.length
    exact (crs_free hp b).mpr (free_self hp P.length)
  have lPl : (RN.filter (fre (fp P) P.length)).length ≤ RN.length := List.length_filter_le _ _
  generalize hPl : RN.filter (fre (fp P) P.length) = PL at *
  -- ahead of the end
  have head : ∀ {o : Option Fl} {g : Fs}, g [im (tN P), im (.list (elL (fp P) P.length)), ac (PL.map fun bs => tN bs), im (.list (RN.map fun bs => tN bs)), s4, none, none, none] = o →
      s_seq (s_setF 1 (x_call F__law_elders [] (a_cons (x_var 0) a_nil))) (s_seq (s_set 2 (x_lst a_nil)) (s_seq (s_setF 3 (x_call F__law_all_rows [] (a_cons (x_sl (x_var 1) (o_at (x_c (.int 1))) o_no) a_nil))) (s_seq (s_if (t_of (x_bin p_gt (x_cb c_len (a_cons (x_var 3) a_nil)) (x_c (.int 60)))) (s_setF 3 (x_stp 2 (x_var 3) o_no o_no)) s_nx)
        (s_seq (s_for (i_seq (x_var 3)) (g_name 4) [4] (s_seq (s_if (t_not (t_of (x_call F__law_led_right [] (a_cons (x_var 0) (a_cons (x_var 1) (a_cons (x_var 4) a_nil)))))) (s_ret (x_c (.bool false))) s_nx)
          (s_seq (s_if (t_of (x_bin p_is (x_call F__law_crossing [] (a_cons (x_var 1) (a_cons (x_var 4) a_nil))) (x_c .none))) (s_drop (x_app 2 (x_var 4))) s_nx) s_nx))) g)))) (env0 [tN P] 7) = o := fun {o g} hg => by
    refine sq (setF (i := 1) (d := .list (elL (fp P) P.length)) (e1 := [im (tN P), none, none, none, none, none, none, none]) (callA (aI (vI rfl) a0) rfl q1) rfl rfl) (sq (setX (i := 2) (r := .ac []) (e2 := [im (tN P), im (.list (elL (fp P) P.length)), ac [], none, none, none, none, none]) rfl rfl rfl) (sq (setF (i := 3) (d := .list ((rowN (fp P) P.length).map fun bs => tN bs)) (e1 := [im (tN P), im (.list (elL (fp P) P.length)), ac [], none, none, none, none, none]) (callI (aA (cs := (elL (fp P) P.length).tail) (e1 := [im (tN P), im (.list (elL (fp P) P.length)), ac [], none, none, none, none, none]) ?_ a0) rfl q2) rfl rfl) (sq rn5 (sq (sf (iseqL (vI rfl)) lp) hg))))
    generalize elL (fp P) P.length = EL
    simp [r_x_var, r_x_c, r_two, r_x_bin, r_t_of, r_t_not, r_t_and, r_t_or, r_x_and, r_x_or, r_x_not, r_x_if, r_x_chain, r_a_nil, r_a_cons, r_argsD, r_argsI, r_x_tup, r_x_lst, r_x_isi, r_x_cb, r_s_seq, r_s_nx, r_s_bk, r_s_ct, r_s_drop, r_s_ret, r_s_if, r_s_set, r_s_setF, r_x_call, r_t_yes, r_s_retN, r_i_seq, x_ix, runF, env0, finR, s_no, putA, okS, isAc, look2, lookR, frzR, lookAll, imAll, imR, isD, e_add, e_sub, e_lt, e_le, e_gt, e_ge, e_eq, e_ne, e_isnone, e_isT, e_isnotnone, e_isnotT, e_isB, e_isnotB, e_neB, e_eqB, c_len, c_tuple, c_list, c_int, r_x_sl, r_o_at, r_o_no, sliced, cut1]
  have lne : PL ≠ [] := fun z => by rw [z] at self; cases self
  by_cases h4 : P.length ≤ 4
  · have eRN := rn4 h4
    rw [eRN] at hPl
    have pa := plans_all hp
    rw [hPl] at pa
    have ndP : PL.Nodup := by
      rw [← hPl]
      exact (rowN_nodup hp P.length).filter _
    have l24 : PL.length ≤ 24 := by
      have := rowN_len hp h4
      rw [← eRN] at this
      omega
    have q3 := v_all_rows (ms := List.replicate P.length (menuI P.length)) (fun m hm => by
      rw [List.eq_of_mem_replicate hm]
      unfold menuI
      (rw [List.length_map, List.length_range])
      exact hn) (by rw [List.length_replicate]; exact hn)
    rw [List.map_replicate] at q3
    have hb := rows_bound (List.replicate P.length (menuI P.length)) [[]] (fun m hm => by
      rw [List.eq_of_mem_replicate hm]
      unfold menuI
      (rw [List.length_map, List.length_range])
      exact hn)
    have hb5 := lt5 (n := 0) (k := (List.replicate P.length (menuI P.length)).length) (by rw [List.length_replicate]; exact hn)
    have lH : (hgts P.length).length ≤ 3125 := by
      unfold hgts
      simp only [List.length_cons, List.length_nil] at hb
      omega
    have hi := fun (h : List Int) (m : h ∈ hgts P.length) => v_higher (P := P) (n := P.length) hp (by omega) (hgts_at m)
    have hgE : rowsL (List.replicate P.length (menuI P.length)) [[]] = hgts P.length := rfl
    rw [hgE] at q3
    have l0 : P.length = 0 → PL.length ≤ 1 := fun z => by
      have a : RN.length = 1 := by
        rw [eRN]
        unfold rowN menus
        rw [z]
        rfl
      omega
    generalize hgts P.length = HG at *
    -- the plans, found and kept
    have iperm : (dedupT ((HG.map fun h => planL (fp P) (fz h) P.length).map iN)).Perm (PL.map iN) := by
      refine perm_of_mem (nodup_dedupT _) ?_ fun k => ?_
      · exact List.Pairwise.map _ (fun a b ne e => ne (iN_inj.mp e)) ndP
      · rw [mem_dedupT]
        constructor
        · intro h
          obtain ⟨bs, hb, rfl⟩ := List.mem_map.mp h
          obtain ⟨g, hg, rfl⟩ := List.mem_map.mp hb
          exact List.mem_map.mpr ⟨_, (pa _).mpr ⟨g, hg, rfl⟩, rfl⟩
        · intro h
          obtain ⟨bs, hb, rfl⟩ := List.mem_map.mp h
          obtain ⟨g, hg, rfl⟩ := (pa bs).mp hb
          exact List.mem_map.mpr ⟨_, List.mem_map.mpr ⟨g, hg, rfl⟩, rfl⟩
    have kl : ∀ k ∈ PL.map iN, k.length = P.length := fun k hk => by
      obtain ⟨bs, hb, rfl⟩ := List.mem_map.mp hk
      unfold iN
      rw [List.length_map]
      rw [← hPl] at hb
      exact (mem_rowN.mp (List.mem_filter.mp hb).1).1
    have ok2 : okT (PL.map iN) = true := okT_len kl fun z => by rw [List.length_map]; exact l0 z
    have ok1 : okT (dedupT ((HG.map fun h => planL (fp P) (fz h) P.length).map iN)) = true := okT_len (fun k hk => kl k (iperm.mem_iff.mp hk)) fun z => by
      rw [iperm.length_eq, List.length_map]
      exact l0 z
    have lD : (dedupT ((HG.map fun h => planL (fp P) (fz h) P.length).map iN)).length < 63 := by
      rw [iperm.length_eq, List.length_map]
      omega
    have c1 : c_sset [.list (((HG.map fun h => planL (fp P) (fz h) P.length).map iN).map tI)] = some (.ac ((upT (PL.map iN)).map tI)) := by
      show (match unT _ with
        | some ks => (if (okT (dedupT ks) && decide ((dedupT ks).length < 63)) = true then some (Rs.ac ((upT (dedupT ks)).map tI)) else none)
        | none => none) = _
      rw [unT_map]
      show (if (okT (dedupT _) && decide ((dedupT _).length < 63)) = true then some (Rs.ac ((upT (dedupT _)).map tI)) else none) = _
      rw [ok1, decide_eq_true lD, upT_congr iperm]
      rfl
    have c2 : c_sortedA [.list ((PL.map iN).map tI)] = some (.ac ((upT (PL.map iN)).map tI)) := by
      have z1 : c_sortedI [.list ((PL.map iN).map tI)] = none := by
        cases PL with
        | nil => exact absurd rfl lne
        | cons b PL => rfl
      unfold c_sortedA orC
      rw [z1]
      show (match unT _ with
        | some ks => (if okT ks = true then some (Rs.ac ((upT ks).map tI)) else none)
        | none => none) = _
      rw [unT_map]
      show (if okT _ = true then some (Rs.ac ((upT _).map tI)) else none) = _
      rw [if_pos ok2]
    have eP : (PL.map fun bs => tN bs) = (PL.map iN).map tI := by
      rw [List.map_map]
      refine List.map_congr_left fun bs _ => ?_
      exact tN_tI bs
    rw [eP] at head
    have eq := eq_tups (upT (PL.map iN))
    generalize upT (PL.map iN) = UP at *
    generalize (PL.map iN).map tI = PT at *
    generalize hRD : PyData.list (RN.map fun bs => tN bs) = RD at *
    generalize hEL : elL (fp P) P.length = EL at *
    generalize hFF : ((HG.map fun h => planL (fp P) (fz h) P.length).map iN).map tI = FF at *
    have m5 : rgL 1 ((P.length : Int) + 1) = (menuI P.length).map PyData.int := by
      unfold rgL menuI
      rw [show ((P.length : Int) + 1 - 1).toNat = P.length by omega, List.map_map]
      rfl
    generalize hMD : PyData.list ((menuI P.length).map PyData.int) = MD at *
    have t5 : x_lrg (g_rg2 (x_c (.int 1)) (x_bin p_add (x_cb c_len (a_cons (x_var 0) a_nil)) (x_c (.int 1)))) [im (tN P), im (.list EL), ac PT, im RD, s4, none, none, none] = some (.ac ((menuI P.length).map PyData.int), [im (tN P), im (.list EL), ac PT, im RD, s4, none, none, none]) := by
      have a : g_rg2 (x_c (.int 1)) (x_bin p_add (x_cb c_len (a_cons (x_var 0) a_nil)) (x_c (.int 1))) [im (tN P), im (.list EL), ac PT, im RD, s4, none, none, none] = some (1, (P.length : Int) + 1, [im (tN P), im (.list EL), ac PT, im RD, s4, none, none, none]) := by
        simp [r_g_rg2, r_x_var, r_x_c, r_two, r_x_bin, r_t_of, r_t_not, r_t_and, r_t_or, r_x_and, r_x_or, r_x_not, r_x_if, r_x_chain, r_a_nil, r_a_cons, r_argsD, r_argsI, r_x_tup, r_x_lst, r_x_isi, r_x_cb, r_s_seq, r_s_nx, r_s_bk, r_s_ct, r_s_drop, r_s_ret, r_s_if, r_s_set, r_s_setF, r_x_call, r_t_yes, r_s_retN, r_i_seq, x_ix, runF, env0, finR, s_no, putA, okS, isAc, look2, lookR, frzR, lookAll, imAll, imR, isD, e_add, e_sub, e_lt, e_le, e_gt, e_ge, e_eq, e_ne, e_isnone, e_isT, e_isnotnone, e_isnotT, e_isB, e_isnotB, e_neB, e_eqB, c_len, c_tuple, c_list, c_int]
      rw [r_x_lrg, a]
      have k : rgOkB 1 ((P.length : Int) + 1) = true := by
        unfold rgOkB
        (simp only [Bool.and_eq_true, decide_eq_true_eq])
        omega
      show (if rgOkB 1 ((P.length : Int) + 1) = true then _ else none) = _
      rw [if_pos k, m5]
    have t6 : x_rep (a_cons (x_var 5) a_nil) (x_cb c_len (a_cons (x_var 0) a_nil)) [im (tN P), im (.list EL), ac PT, im RD, s4, im MD, none, none] = some (.ac (List.replicate P.length MD), [im (tN P), im (.list EL), ac PT, im RD, s4, im MD, none, none]) := by
      have a : argsI (a_cons (x_var 5) a_nil) [im (tN P), im (.list EL), ac PT, im RD, s4, im MD, none, none] = some ([MD], [im (tN P), im (.list EL), ac PT, im RD, s4, im MD, none, none]) := aI (vI rfl) a0
      have b : x_cb c_len (a_cons (x_var 0) a_nil) [im (tN P), im (.list EL), ac PT, im RD, s4, im MD, none, none] = some (.im (.int (P.length : Int)), [im (tN P), im (.list EL), ac PT, im RD, s4, im MD, none, none]) := by simp [r_x_var, r_x_c, r_two, r_x_bin, r_t_of, r_t_not, r_t_and, r_t_or, r_x_and, r_x_or, r_x_not, r_x_if, r_x_chain, r_a_nil, r_a_cons, r_argsD, r_argsI, r_x_tup, r_x_lst, r_x_isi, r_x_cb, r_s_seq, r_s_nx, r_s_bk, r_s_ct, r_s_drop, r_s_ret, r_s_if, r_s_set, r_s_setF, r_x_call, r_t_yes, r_s_retN, r_i_seq, x_ix, runF, env0, finR, s_no, putA, okS, isAc, look2, lookR, frzR, lookAll, imAll, imR, isD, e_add, e_sub, e_lt, e_le, e_gt, e_ge, e_eq, e_ne, e_isnone, e_isT, e_isnotnone, e_isnotT, e_isB, e_isnotB, e_neB, e_eqB, c_len, c_tuple, c_list, c_int]
      rw [r_x_rep, a]
      simp only [b, Int.toNat_natCast]
      have k1 : okLen ([MD].length * P.length) = true := okLen_yes (by simp only [List.length_cons, List.length_nil]; omega)
      have k2 : decide (-9223372036854775808 ≤ (P.length : Int) ∧ (P.length : Int) < 9223372036854775808) = true := decide_eq_true (by omega)
      rw [k1, k2, rep_flat]
      rfl
    have t7 : x_lc (i_seq (x_call F__law_all_rows [] (a_cons (x_rep (a_cons (x_var 5) a_nil) (x_cb c_len (a_cons (x_var 0) a_nil))) a_nil))) (g_name 7) t_yes (x_call F__law_higher [] (a_cons (x_var 7) (a_cons (x_var 1) a_nil))) [7] [im (tN P), im (.list EL), ac PT, im RD, s4, im MD, none, none] = some (.ac FF, [im (tN P), im (.list EL), ac PT, im RD, s4, im MD, none, none]) := by
      have eF : (HG.map tI).map (fun d => match d with
        | .tuple ds => tN (planL (fp P) (fz ((unI ds).getD [])) P.length)
        | _ => PyData.none) = FF := by
        rw [← hFF, List.map_map, List.map_map, List.map_map]
        refine List.map_congr_left fun h _ => ?_
        show tN (planL (fp P) (fz ((unI (h.map PyData.int)).getD [])) P.length) = tI (iN (planL (fp P) (fz h) P.length))
        rw [unI_ints]
        exact tN_tI _
      rw [x_lc_all (e1 := [im (tN P), im (.list EL), ac PT, im RD, s4, im MD, none, none]) (ds := HG.map tI) (fun d => match d with
        | .tuple ds => tN (planL (fp P) (fz ((unI ds).getD [])) P.length)
        | _ => .none) (iseqL (callI (aA t6 a0) rfl q3)) rfl (by rw [List.length_map]; omega) fun d hd => ?_]
      · rw [eF]
      · obtain ⟨h, hh, rfl⟩ := List.mem_map.mp hd
        have k := hi h hh
        refine ⟨[im (tN P), im (.list EL), ac PT, im RD, s4, im MD, none, im (tI h)], .im (tN (planL (fp P) (fz h) P.length)), [im (tN P), im (.list EL), ac PT, im RD, s4, im MD, none, im (tI h)], rfl, callI (aI (vI rfl) (aI (vI rfl) a0)) rfl k, ?_, rfl⟩
        show some (tN (planL (fp P) (fz h) P.length)) = some (tN (planL (fp P) (fz ((unI (h.map PyData.int)).getD [])) P.length))
        rw [unI_ints]
        rfl
    refine runs rfl (head (sq (e1 := [im (tN P), im (.list EL), ac PT, im RD, s4, none, none, none]) (ifF (e1 := [im (tN P), im (.list EL), ac PT, im RD, s4, none, none, none]) ?_ rfl) (sq (setF (i := 5) (d := MD) t5 rfl (by rw [← hMD]; rfl)) (sq (setF (i := 6) (d := .list FF) t7 rfl rfl) (sr (ret (binAA (as := UP.map tI) (cs := UP.map tI) (e1 := [im (tN P), im (.list EL), ac PT, im RD, s4, im MD, im (.list FF), none]) (e2 := [im (tN P), im (.list EL), ac PT, im RD, s4, im MD, im (.list FF), none]) ?_ ?_ eq))))))) rfl
    · simp [r_x_var, r_x_c, r_two, r_x_bin, r_t_of, r_t_not, r_t_and, r_t_or, r_x_and, r_x_or, r_x_not, r_x_if, r_x_chain, r_a_nil, r_a_cons, r_argsD, r_argsI, r_x_tup, r_x_lst, r_x_isi, r_x_cb, r_s_seq, r_s_nx, r_s_bk, r_s_ct, r_s_drop, r_s_ret, r_s_if, r_s_set, r_s_setF, r_x_call, r_t_yes, r_s_retN, r_i_seq, x_ix, runF, env0, finR, s_no, putA, okS, isAc, look2, lookR, frzR, lookAll, imAll, imR, isD, e_add, e_sub, e_lt, e_le, e_gt, e_ge, e_eq, e_ne, e_isnone, e_isT, e_isnotnone, e_isnotT, e_isB, e_isnotB, e_neB, e_eqB, c_len, c_tuple, c_list, c_int]
      omega
    · show x_cb c_sset (a_cons (x_var 6) a_nil) _ = _
      simp [r_x_cb, r_argsD, r_a_cons, r_a_nil, r_x_var, lookAll, lookR, frzR, c1]
    · simp [r_x_cb, r_argsD, r_a_cons, r_a_nil, r_x_var, lookAll, lookR, frzR, c2]
  · refine runs rfl (head (sr (ifT (e1 := [im (tN P), im (.list (elL (fp P) P.length)), ac (PL.map fun bs => tN bs), im (.list (RN.map fun bs => tN bs)), s4, none, none, none]) ?_ (ret (r := .im (.bool true)) (e1 := [im (tN P), im (.list (elL (fp P) P.length)), ac (PL.map fun bs => tN bs), im (.list (RN.map fun bs => tN bs)), s4, none, none, none]) ?_)))) rfl
    · simp [r_x_var, r_x_c, r_two, r_x_bin, r_t_of, r_t_not, r_t_and, r_t_or, r_x_and, r_x_or, r_x_not, r_x_if, r_x_chain, r_a_nil, r_a_cons, r_argsD, r_argsI, r_x_tup, r_x_lst, r_x_isi, r_x_cb, r_s_seq, r_s_nx, r_s_bk, r_s_ct, r_s_drop, r_s_ret, r_s_if, r_s_set, r_s_setF, r_x_call, r_t_yes, r_s_retN, r_i_seq, x_ix, runF, env0, finR, s_no, putA, okS, isAc, look2, lookR, frzR, lookAll, imAll, imR, isD, e_add, e_sub, e_lt, e_le, e_gt, e_ge, e_eq, e_ne, e_isnone, e_isT, e_isnotnone, e_isnotT, e_isB, e_isnotB, e_neB, e_eqB, c_len, c_tuple, c_list, c_int]
      omega
    · have c : 0 < PL.length := List.length_pos_iff.mpr lne
      simp [r_x_var, r_x_c, r_two, r_x_bin, r_t_of, r_t_not, r_t_and, r_t_or, r_x_and, r_x_or, r_x_not, r_x_if, r_x_chain, r_a_nil, r_a_cons, r_argsD, r_argsI, r_x_tup, r_x_lst, r_x_isi, r_x_cb, r_s_seq, r_s_nx, r_s_bk, r_s_ct, r_s_drop, r_s_ret, r_s_if, r_s_set, r_s_setF, r_x_call, r_t_yes, r_s_retN, r_i_seq, x_ix, runF, env0, finR, s_no, putA, okS, isAc, look2, lookR, frzR, lookAll, imAll, imR, isD, e_add, e_sub, e_lt, e_le, e_gt, e_ge, e_eq, e_ne, e_isnone, e_isT, e_isnotnone, e_isnotT, e_isB, e_isnotB, e_neB, e_eqB, c_len, c_tuple, c_list, c_int, c]
end
end K58
namespace K58
open PySem PySem.Spec PySem.W PyProof.Rows L2 DL
/-! ### the feed -/
def FD (cells : List Int) (i : Nat) (b s : Int) : List PyData := [.list (cells.map PyData.int), .int (i : Int), .int b, .int s]
structure Fed (fd : List PyData) : Prop where
  ex : ∃ cells i b s, fd = FD cells i b s ∧ cells.length ≤ 63 ∧ 0 ≤ b ∧ 0 ≤ s ∧ s < 999983
theorem v_feed (cells : List Int) (h : cells.length ≤ 63) : ∃ fd, F__law_feed [.list (cells.map PyData.int)] = some (.ac fd) ∧ Fed fd := by
  obtain ⟨e3, g1, s, a, s1, s2, g2⟩ := forGo_inv (γ := g_name 2) (S := [2]) (fb := s_setF 1 (x_bin p_mod (x_cb c_int (a_cons (x_bin p_add (x_bin p_mul (x_var 1) (x_c (.int 389))) (x_var 2)) a_nil)) (x_c (.int 999983)))) PyData.int cells
    (fun _ e => ∃ s a, 0 ≤ s ∧ s < 999983 ∧ e = [im (.list (cells.map PyData.int)), im (.int s), a]) [im (.list (cells.map PyData.int)), im (.int 88811), none] ⟨_, _, by omega, by omega, rfl⟩ fun pre x post hk e he => by
      obtain ⟨s, a, s1, s2, rfl⟩ := he
      have m : p_mul (.int s) (.int 389) = some (.im (.int (s * 389))) := e_mul (by omega)
      have md : p_mod (.int (s * 389 + x)) (.int 999983) = some (.im (.int ((s * 389 + x) % 999983))) := e_mod (by omega)
      refine ⟨rfl, [im (.list (cells.map PyData.int)), im (.int s), im (.int x)], [im (.list (cells.map PyData.int)), im (.int ((s * 389 + x) % 999983)), im (.int x)], rfl, .inl (setF (i := 1) (d := .int ((s * 389 + x) % 999983)) (r := .im (.int ((s * 389 + x) % 999983))) (e1 := [im (.list (cells.map PyData.int)), im (.int s), im (.int x)]) ?_ rfl rfl), _, _, Int.emod_nonneg _ (by omega), Int.emod_lt_of_pos _ (by omega), rfl⟩
      simp [r_x_var, r_x_c, r_two, r_x_bin, r_t_of, r_t_not, r_t_and, r_t_or, r_x_and, r_x_or, r_x_not, r_x_if, r_x_chain, r_a_nil, r_a_cons, r_argsD, r_argsI, r_x_tup, r_x_lst, r_x_isi, r_x_cb, r_s_seq, r_s_nx, r_s_bk, r_s_ct, r_s_drop, r_s_ret, r_s_if, r_s_set, r_s_setF, r_x_call, r_t_yes, r_s_retN, r_i_seq, x_ix, runF, env0, finR, s_no, putA, okS, isAc, look2, lookR, frzR, lookAll, imAll, imR, isD, e_add, e_sub, e_lt, e_le, e_gt, e_ge, e_eq, e_ne, e_isnone, e_isT, e_isnotnone, e_isnotT, e_isB, e_isnotB, e_neB, e_eqB, c_len, c_tuple, c_list, c_int, m, md]
  subst g2
  refine ⟨FD cells 0 0 s, ?_, cells, 0, 0, s, rfl, h, by omega, s1, s2⟩
  refine runs rfl (sq (setF (i := 1) (d := .int 88811) (r := .im (.int 88811)) rfl rfl rfl) (sq (sf (iseqL (vI rfl)) g1) (sr (ret (r := .ac (FD cells 0 0 s)) (e1 := [im (.list (cells.map PyData.int)), im (.int s), a]) ?_)))) rfl
  simp [r_x_var, r_x_c, r_two, r_x_bin, r_t_of, r_t_not, r_t_and, r_t_or, r_x_and, r_x_or, r_x_not, r_x_if, r_x_chain, r_a_nil, r_a_cons, r_argsD, r_argsI, r_x_tup, r_x_lst, r_x_isi, r_x_cb, r_s_seq, r_s_nx, r_s_bk, r_s_ct, r_s_drop, r_s_ret, r_s_if, r_s_set, r_s_setF, r_x_call, r_t_yes, r_s_retN, r_i_seq, x_ix, runF, env0, finR, s_no, putA, okS, isAc, look2, lookR, frzR, lookAll, imAll, imR, isD, e_add, e_sub, e_lt, e_le, e_gt, e_ge, e_eq, e_ne, e_isnone, e_isT, e_isnotnone, e_isnotT, e_isB, e_isnotB, e_neB, e_eqB, c_len, c_tuple, c_list, c_int, okLen, FD]
theorem runMs {n nl : Nat} {g : Fs} {c ds : List PyData} {d : PyData} {e : Ev} {c' : List PyData} (hl : ds.length = n) (h : g (envM c ds nl) = some (.rt (.im d) (some (.ac c') :: e))) : runM n nl g c ds = some (.im d, c') := by
  unfold runM
  rw [if_pos hl, h]
  rfl
theorem e_mulW {i j : Int} (h : mulWC i j = true) : p_mul (.int i) (.int j) = some (.im (.int (i * j))) := by
  unfold p_mul orF
  by_cases c : mulC i j = true
  · have e : (d_int2 (fun i j => .int (i * j)) mulC (.int i) (.int j)).map Rs.im = some (.im (.int (i * j))) := by
      show ((if mulC i j = true then some (PyData.int (i * j)) else none).map Rs.im) = _
      rw [if_pos c]
      rfl
    simp only [e]
  · have e : (d_int2 (fun i j => .int (i * j)) mulC (.int i) (.int j)).map Rs.im = none := by
      show ((if mulC i j = true then some (PyData.int (i * j)) else none).map Rs.im) = _
      rw [if_neg c]
      rfl
    have e2 : (d_int2 (fun i j => .int (i * j)) mulWC (.int i) (.int j)).map Rs.im = some (.im (.int (i * j))) := by
      show ((if mulWC i j = true then some (PyData.int (i * j)) else none).map Rs.im) = _
      rw [if_pos h]
      rfl
    simp only [e, e2]
/-- an item of a list of one's own -/
theorem brI {i : Nat} {e : Ev} {c : List PyData} {j : Int} {d : PyData} (h : e[i]? = some (some (.ac c))) (k : p_ix (.list c) (.int j) = some (.im d)) : x_ix (x_var i) (x_c (.int j)) e = some (.im d, e) := by
  show x_bin p_ix (x_var i) (x_c (.int j)) e = _
  rw [r_x_bin, r_two, r_x_var, h]
  simp only [r_x_c, look2, frzR, lookR, h, k]
theorem putI {i : Nat} {fv fk : Fe} {e e1 e2 : Ev} {d : PyData} {k : Int} {c : List PyData} {j : Nat} (h1 : fv e = some (.im d, e1)) (h2 : isAc e1[i]? = true) (h3 : fk e1 = some (.im (.int k), e2)) (h4 : e2[i]? = some (some (.ac c))) (h5 : ixN c.length k = some j) : s_put i fv fk e = some (.nx (e2.set i (some (.ac (c.set j d))))) := by
  rw [r_s_put, h1]
  simp only [h2, if_true, frzR, imR, h3, h4, h5]
theorem intI {f : Fe} {e e1 : Ev} {i : Int} (h : f e = some (.im (.int i), e1)) : x_cb c_int (a_cons f a_nil) e = some (.im (.int i), e1) := by
  simp [r_x_cb, r_argsD, r_a_cons, r_a_nil, h, lookAll, lookR, frzR, c_int]
theorem absI {f : Fe} {e e1 : Ev} {i : Int} (h : f e = some (.im (.int i), e1)) : x_cb c_abs (a_cons f a_nil) e = some (.im (.int (if i < 0 then -i else i)), e1) := by
  simp [r_x_cb, r_argsD, r_a_cons, r_a_nil, h, lookAll, lookR, frzR, c_abs]
theorem lenI {f : Fe} {e e1 : Ev} {ds : List PyData} (h : f e = some (.im (.list ds), e1)) : x_cb c_len (a_cons f a_nil) e = some (.im (.int ds.length), e1) := by
  simp [r_x_cb, r_argsD, r_a_cons, r_a_nil, h, lookAll, lookR, frzR, c_len]
section
variable (cells : List Int) (i : Nat) (b s : Int)
theorem f0 : p_ix (.list (FD cells i b s)) (.int 0) = some (.im (.list (cells.map PyData.int))) := rfl
theorem f1 : p_ix (.list (FD cells i b s)) (.int 1) = some (.im (.int (i : Int))) := rfl
theorem f2 : p_ix (.list (FD cells i b s)) (.int 2) = some (.im (.int b)) := rfl
theorem f3 : p_ix (.list (FD cells i b s)) (.int 3) = some (.im (.int s)) := rfl
end
theorem big_pos : (0 : Int) < 10 ^ 64 * 10 ^ 64 * 10 ^ 64 := by decide +kernel
theorem big_1 : mulWC (10 ^ 64) (10 ^ 64) = true := by decide +kernel
theorem big_2 : mulWC (10 ^ 64 * 10 ^ 64) (10 ^ 64) = true := by decide +kernel
/-- the cell that is taken up -/
theorem next_step {cells : List Int} {i : Nat} {b s k : Int} (hl : cells.length ≤ 63) (hb : 0 ≤ b) (h1 : 0 ≤ s) (h2 : s < 999983) : ∃ i' b' s' a, 0 ≤ b' ∧ 0 ≤ s' ∧ s' < 999983 ∧
    s_if (t_and (t_of (x_bin p_eq (x_ix (x_var 0) (x_c (.int 2))) (x_c (.int 0)))) (t_of (x_bin p_lt (x_ix (x_var 0) (x_c (.int 1))) (x_cb c_len (a_cons (x_ix (x_var 0) (x_c (.int 0))) a_nil)))))
  (s_seq (s_setF 2 (x_ix (x_ix (x_var 0) (x_c (.int 0))) (x_ix (x_var 0) (x_c (.int 1)))))
  (s_seq (s_put 0 (x_bin p_add (x_ix (x_var 0) (x_c (.int 1))) (x_c (.int 1))) (x_c (.int 1)))
  (s_seq (s_if (t_of (x_bin p_ge (x_cb c_abs (a_cons (x_var 2) a_nil)) (x_bin p_pow (x_c (.int 10)) (x_c (.int 18)))))
  (s_put 0 (x_bin p_mod (x_cb c_int (a_cons (x_cb c_abs (a_cons (x_var 2) a_nil)) a_nil)) (x_bin p_mul (x_bin p_mul (x_bin p_pow (x_c (.int 10)) (x_c (.int 64))) (x_bin p_pow (x_c (.int 10)) (x_c (.int 64)))) (x_bin p_pow (x_c (.int 10)) (x_c (.int 64))))) (x_c (.int 2)))
  (s_put 0 (x_bin p_mod (x_cb c_int (a_cons (x_bin p_add (x_bin p_add (x_ix (x_var 0) (x_c (.int 3))) (x_bin p_mul (x_c (.int 7309)) (x_var 2))) (x_bin p_mul (x_c (.int 3)) (x_ix (x_var 0) (x_c (.int 1))))) a_nil)) (x_c (.int 999983))) (x_c (.int 3))))
  s_nx)))
  s_nx [ac (FD cells i b s), im (.int k), none, none] = some (.nx [ac (FD cells i' b' s'), im (.int k), a, none]) := by
  by_cases c1 : b = 0
  · by_cases c2 : i < cells.length
    · obtain ⟨x, hx⟩ : ∃ x, cells[i]? = some x := ⟨_, List.getElem?_eq_getElem c2⟩
      have qx : p_ix (.list (cells.map PyData.int)) (.int (i : Int)) = some (.im (.int x)) := e_ixL (by rw [List.getElem?_map, hx]; rfl)
      have st1 : s_setF 2 (x_ix (x_ix (x_var 0) (x_c (.int 0))) (x_ix (x_var 0) (x_c (.int 1)))) [ac (FD cells i b s), im (.int k), none, none] = some (.nx [ac (FD cells i b s), im (.int k), im (.int x), none]) := setF (i := 2) (DL.binI (brI rfl (f0 cells i b s)) (brI rfl (f1 cells i b s)) qx) rfl rfl
      have st2 : s_put 0 (x_bin p_add (x_ix (x_var 0) (x_c (.int 1))) (x_c (.int 1))) (x_c (.int 1)) [ac (FD cells i b s), im (.int k), im (.int x), none] = some (.nx [ac (FD cells (i + 1) b s), im (.int k), im (.int x), none]) :=
        putI (i := 0) (c := FD cells i b s) (e1 := [ac (FD cells i b s), im (.int k), im (.int x), none]) (e2 := [ac (FD cells i b s), im (.int k), im (.int x), none]) (j := 1) (DL.binI (brI rfl (f1 cells i b s)) cI e_add) rfl cI rfl rfl
      have tst : t_and (t_of (x_bin p_eq (x_ix (x_var 0) (x_c (.int 2))) (x_c (.int 0)))) (t_of (x_bin p_lt (x_ix (x_var 0) (x_c (.int 1))) (x_cb c_len (a_cons (x_ix (x_var 0) (x_c (.int 0))) a_nil)))) [ac (FD cells i b s), im (.int k), none, none] = some (true, [ac (FD cells i b s), im (.int k), none, none]) :=
        tandT (bang (DL.binI (brI rfl (f2 cells i b s)) cI (by rw [e_eq, decide_eq_true c1]))) (bang (DL.binI (brI rfl (f1 cells i b s)) (lenI (brI rfl (f0 cells i b s))) (by rw [e_lt, decide_eq_true (by rw [List.length_map]; omega)])))
      have abs0 : 0 ≤ (if x < 0 then -x else x) := by
        by_cases c : x < 0
        · rw [if_pos c]
          omega
        · rw [if_neg c]
          omega
      by_cases c3 : (10 : Int) ^ 18 ≤ (if x < 0 then -x else x)
      · refine ⟨i + 1, (if x < 0 then -x else x) % (10 ^ 64 * 10 ^ 64 * 10 ^ 64), s, im (.int x), Int.emod_nonneg _ (by have := big_pos; omega), h1, h2, ifT tst (sq st1 (sq st2 (sq (ifT (e1 := [ac (FD cells (i + 1) b s), im (.int k), im (.int x), none]) (bang (DL.binI (absI (vI rfl)) (DL.binI cI cI (r := .im (.int (10 ^ 18))) rfl) (by rw [e_ge, decide_eq_true c3]))) ?_) rfl)))⟩
        exact putI (i := 0) (c := FD cells (i + 1) b s) (e1 := [ac (FD cells (i + 1) b s), im (.int k), im (.int x), none]) (e2 := [ac (FD cells (i + 1) b s), im (.int k), im (.int x), none]) (j := 2) (DL.binI (intI (absI (vI rfl))) (DL.binI (DL.binI (DL.binI cI cI (r := .im (.int (10 ^ 64))) rfl) (DL.binI cI cI (r := .im (.int (10 ^ 64))) rfl) (e_mulW big_1)) (DL.binI cI cI (r := .im (.int (10 ^ 64))) rfl) (e_mulW big_2)) (e_mod big_pos)) rfl cI rfl rfl
      · refine ⟨i + 1, b, (s + 7309 * x + 3 * ((i : Int) + 1)) % 999983, im (.int x), hb, Int.emod_nonneg _ (by omega), Int.emod_lt_of_pos _ (by omega), ifT tst (sq st1 (sq st2 (sq (ifF (e1 := [ac (FD cells (i + 1) b s), im (.int k), im (.int x), none]) (bang (DL.binI (absI (vI rfl)) (DL.binI cI cI (r := .im (.int (10 ^ 18))) rfl) (by rw [e_ge, decide_eq_false c3]))) ?_) rfl)))⟩
        exact putI (i := 0) (c := FD cells (i + 1) b s) (e1 := [ac (FD cells (i + 1) b s), im (.int k), im (.int x), none]) (e2 := [ac (FD cells (i + 1) b s), im (.int k), im (.int x), none]) (j := 3) (DL.binI (intI (DL.binI (DL.binI (brI rfl (f3 cells (i + 1) b s)) (DL.binI cI (vI rfl) (e_mul (by omega))) e_add) (DL.binI cI (brI rfl (f1 cells (i + 1) b s)) (e_mul (by omega))) e_add)) cI (e_mod (by omega))) rfl cI rfl rfl
    · exact ⟨i, b, s, none, hb, h1, h2, ifF (tandT (bang (DL.binI (brI rfl (f2 cells i b s)) cI (by rw [e_eq, decide_eq_true c1]))) (bang (DL.binI (brI rfl (f1 cells i b s)) (lenI (brI rfl (f0 cells i b s))) (by rw [e_lt, decide_eq_false (by rw [List.length_map]; omega)])))) rfl⟩
  · exact ⟨i, b, s, none, hb, h1, h2, ifF (tandF (bang (DL.binI (brI rfl (f2 cells i b s)) cI (by rw [e_eq, decide_eq_false c1])))) rfl⟩
theorem v_next {fd : List PyData} (hf : Fed fd) {k : Int} (k1 : 1 ≤ k) (k2 : k ≤ 1000) : ∃ (x : Nat) (fd' : List PyData), F__law_next fd [.int k] = some (.im (.int (x : Int)), fd') ∧ (x : Int) < k ∧ Fed fd' := by
  obtain ⟨cells, i, b, s, rfl, hl, hb, h1, h2⟩ := hf.ex
  by_cases c0 : cells.length = 0
  · refine ⟨0, FD cells i b s, ?_, by omega, ⟨cells, i, b, s, rfl, hl, hb, h1, h2⟩⟩
    exact runMs (e := [im (.int k), none, none]) rfl (sr (ifT (bang (DL.binI (lenI (brI rfl (f0 cells i b s))) cI (by rw [e_eq, decide_eq_true (by rw [List.length_map]; omega)]))) (ret cI)))
  · obtain ⟨i', b', s', a, g1, g2, g3, st⟩ := next_step (i := i) (k := k) hl hb h1 h2
    have t0 : t_of (x_bin p_eq (x_cb c_len (a_cons (x_ix (x_var 0) (x_c (.int 0))) a_nil)) (x_c (.int 0))) [ac (FD cells i b s), im (.int k), none, none] = some (false, [ac (FD cells i b s), im (.int k), none, none]) :=
      bang (DL.binI (lenI (brI rfl (f0 cells i b s))) cI (by rw [e_eq, decide_eq_false (by rw [List.length_map]; omega)]))
    by_cases c1 : 0 < b'
    · have m0 := Int.emod_nonneg b' (b := k) (by omega)
      have m1 := Int.emod_lt_of_pos b' (b := k) (by omega)
      refine ⟨(b' % k).toNat, FD cells i' (b' / k) s', ?_, by omega, ⟨cells, i', b' / k, s', rfl, hl, Int.ediv_nonneg g1 (by omega), g2, g3⟩⟩
      rw [show (((b' % k).toNat : Nat) : Int) = b' % k by omega]
      refine runMs (e := [im (.int k), a, im (.int b')]) rfl (sq (ifF t0 rfl) (sq st (sr (ifT (bang (DL.binI (brI rfl (f2 cells i' b' s')) cI (by rw [e_gt, decide_eq_true c1]))) (sq (setF (i := 3) (brI rfl (f2 cells i' b' s')) rfl rfl) (sq (e1 := [ac (FD cells i' (b' / k) s'), im (.int k), a, im (.int b')]) (putI (i := 0) (c := FD cells i' b' s') (e1 := [ac (FD cells i' b' s'), im (.int k), a, im (.int b')]) (e2 := [ac (FD cells i' b' s'), im (.int k), a, im (.int b')]) (j := 2) (DL.binI (vI rfl) (vI rfl) (e_div (i := b') (j := k) (by omega) (by omega))) rfl cI rfl rfl) (sr (ret (DL.binI (intI (vI rfl)) (vI rfl) (e_mod (i := b') (j := k) (by omega)))))))))))
    · have s1 := Int.emod_nonneg (s' * 52361 + 30713) (b := 999983) (by omega)
      have s2 := Int.emod_lt_of_pos (s' * 52361 + 30713) (b := 999983) (by omega)
      generalize hs : (s' * 52361 + 30713) % 999983 = t at s1 s2
      have m0 := Int.emod_nonneg (t / 17) (b := k) (by omega)
      have m1 := Int.emod_lt_of_pos (t / 17) (b := k) (by omega)
      refine ⟨(t / 17 % k).toNat, FD cells i' b' t, ?_, by omega, ⟨cells, i', b', t, rfl, hl, g1, s1, s2⟩⟩
      rw [show (((t / 17 % k).toNat : Nat) : Int) = t / 17 % k by omega]
      have md : p_mod (.int (s' * 52361 + 30713)) (.int 999983) = some (.im (.int t)) := by rw [← hs]; exact e_mod (by omega)
      refine runMs (e := [im (.int k), a, none]) rfl (sq (ifF t0 rfl) (sq st (sq (ifF (bang (DL.binI (brI rfl (f2 cells i' b' s')) cI (by rw [e_gt, decide_eq_false c1]))) rfl) (sq (e1 := [ac (FD cells i' b' t), im (.int k), a, none]) (putI (i := 0) (c := FD cells i' b' s') (e1 := [ac (FD cells i' b' s'), im (.int k), a, none]) (e2 := [ac (FD cells i' b' s'), im (.int k), a, none]) (j := 3) (DL.binI (intI (DL.binI (DL.binI (brI rfl (f3 cells i' b' s')) cI (e_mul (by omega))) cI e_add)) cI md) rfl cI rfl rfl) (sr (ret (DL.binI (intI (DL.binI (brI rfl (f3 cells i' b' t)) cI (e_div (i := t) (j := 17) (by omega) (by omega)))) (vI rfl) (e_mod (i := t / 17) (j := k) (by omega)))))))))
end K58
namespace K58
open PySem PySem.Spec PySem.W PyProof.Rows L2 DL
theorem callMI {φ : List PyData → List PyData → Option (Rs × List PyData)} {i : Nat} {fk : Fe} {e : Ev} {c c' : List PyData} {k d : PyData} (h0 : e[i]? = some (some (.ac c))) (hk : fk e = some (.im k, e)) (q : φ c [k] = some (.im d, c')) :
    x_callM φ [] (a_cons (x_var i) (a_cons fk a_nil)) e = some (.im d, e.set i (some (.ac c'))) := by
  rw [r_x_callM, r_a_cons, r_x_var, h0]
  simp only [r_a_cons, hk, r_a_nil, frzR, imAll, imR, h0, List.append_nil, q]
theorem appI {i : Nat} {f : Fe} {e e1 : Ev} {d : PyData} {ds : List PyData} (h0 : isAc e[i]? = true) (h : f e = some (.im d, e1)) (h1 : e1[i]? = some (some (.ac ds))) (hl : ds.length ≤ 100000) : x_app i f e = some (.im .none, e1.set i (some (.ac (ds ++ [d])))) := by
  rw [r_x_app, if_pos h0, h]
  simp only [frzR, imR, h1]
  rw [if_pos (okLen_yes (by omega))]
theorem range_pre {m : Nat} {pre post : List Nat} {k : Nat} (h : List.range m = pre ++ k :: post) : k = pre.length ∧ k < m := by
  have l : pre.length < m := by
    (have := congrArg List.length h)
    rw [List.length_range, List.length_append, List.length_cons] at this
    omega
  have q : (List.range m)[pre.length]? = some k := by
    rw [h]
    simp
  rw [List.getElem?_range l] at q
  have := Option.some.inj q
  omega
theorem v_history {fd : List PyData} (hf : Fed fd) {m : Nat} (hm : m ≤ 24) : ∃ (P : List Nat) (fd' : List PyData), F__law_history fd [.int (m : Int)] = some (.im (tN P), fd') ∧ P.length = m ∧ Par (fp P) ∧ Fed fd' := by
  obtain ⟨sh, fd1, n1, n2, n3⟩ := v_next hf (k := 4) (by omega) (by omega)
  obtain ⟨e3, g1, fd2, Ps, s4, k1, k2, k3, g2⟩ := forGo_inv (γ := g_name 4) (S := [4]) (fb := s_if (t_of (x_bin p_eq (x_var 2) (x_c (.int 0)))) (s_drop (x_app 3 (x_bin p_sub (x_var 4) (x_c (.int 1))))) (s_if (t_of (x_bin p_eq (x_var 2) (x_c (.int 1)))) (s_drop (x_app 3 (x_bin p_div (x_bin p_sub (x_var 4) (x_c (.int 1))) (x_c (.int 2))))) (s_if (t_of (x_bin p_eq (x_var 2) (x_c (.int 2)))) (s_drop (x_app 3 (x_callM F__law_next [] (a_cons (x_var 0) (a_cons (x_var 4) a_nil))))) (s_drop (x_app 3 (x_cb c_max2 (a_cons (x_c (.int 0)) (a_cons (x_bin p_sub (x_bin p_sub (x_var 4) (x_c (.int 1))) (x_bin p_mod (x_cb c_int (a_cons (x_bin p_div (x_var 4) (x_c (.int 3))) a_nil)) (x_c (.int 3)))) a_nil)))))))) (fun k => nD (k + 1)) (List.range m)
    (fun pre e => ∃ fd Ps s4, Fed fd ∧ Ps.length = pre.length ∧ (∀ (i x : Nat), Ps[i]? = some x → x ≤ i) ∧ e = [ac fd, im (.int (m : Int)), im (.int (sh : Int)), ac (Ps.map nD), s4]) [ac fd1, im (.int (m : Int)), im (.int (sh : Int)), ac [], none] ⟨fd1, [], none, n3, rfl, fun i x z => by simp at z, rfl⟩ fun pre k post hk e he => by
      obtain ⟨fd, Ps, s4, j1, j2, j3, rfl⟩ := he
      obtain ⟨kp, km⟩ := range_pre hk
      have main : ∃ (x : Nat) (fd' : List PyData), x ≤ k ∧ Fed fd' ∧ s_if (t_of (x_bin p_eq (x_var 2) (x_c (.int 0)))) (s_drop (x_app 3 (x_bin p_sub (x_var 4) (x_c (.int 1))))) (s_if (t_of (x_bin p_eq (x_var 2) (x_c (.int 1)))) (s_drop (x_app 3 (x_bin p_div (x_bin p_sub (x_var 4) (x_c (.int 1))) (x_c (.int 2))))) (s_if (t_of (x_bin p_eq (x_var 2) (x_c (.int 2)))) (s_drop (x_app 3 (x_callM F__law_next [] (a_cons (x_var 0) (a_cons (x_var 4) a_nil))))) (s_drop (x_app 3 (x_cb c_max2 (a_cons (x_c (.int 0)) (a_cons (x_bin p_sub (x_bin p_sub (x_var 4) (x_c (.int 1))) (x_bin p_mod (x_cb c_int (a_cons (x_bin p_div (x_var 4) (x_c (.int 3))) a_nil)) (x_c (.int 3)))) a_nil))))))) [ac fd, im (.int (m : Int)), im (.int (sh : Int)), ac (Ps.map nD), im (nD (k + 1))]
          = some (.nx [ac fd', im (.int (m : Int)), im (.int (sh : Int)), ac (Ps.map nD ++ [nD x]), im (nD (k + 1))]) := by
        have pl : (Ps.map nD).length ≤ 100000 := by
          rw [List.length_map, j2]
          omega
        by_cases c0 : sh = 0
        · refine ⟨k, fd, by omega, j1, ifT (bang (DL.binI (vI rfl) cI (by rw [e_eq, decide_eq_true (by omega)]))) (drop (appI rfl (d := nD k) (DL.binI (vI rfl) cI ?_) rfl pl))⟩
          show p_sub (.int ((k + 1 : Nat) : Int)) (.int 1) = _
          rw [e_sub, show ((k + 1 : Nat) : Int) - 1 = (k : Int) by omega]
          rfl
        · have t0 : t_of (x_bin p_eq (x_var 2) (x_c (.int 0))) [ac fd, im (.int (m : Int)), im (.int (sh : Int)), ac (Ps.map nD), im (nD (k + 1))] = some (false, [ac fd, im (.int (m : Int)), im (.int (sh : Int)), ac (Ps.map nD), im (nD (k + 1))]) := bang (DL.binI (vI rfl) cI (by rw [e_eq, decide_eq_false (by omega)]))
          have sb : x_bin p_sub (x_var 4) (x_c (.int 1)) [ac fd, im (.int (m : Int)), im (.int (sh : Int)), ac (Ps.map nD), im (nD (k + 1))] = some (.im (.int (k : Int)), [ac fd, im (.int (m : Int)), im (.int (sh : Int)), ac (Ps.map nD), im (nD (k + 1))]) := by
            refine DL.binI (vI rfl) cI ?_
            show p_sub (.int ((k + 1 : Nat) : Int)) (.int 1) = _
            rw [e_sub, show ((k + 1 : Nat) : Int) - 1 = (k : Int) by omega]
          by_cases c1 : sh = 1
          · refine ⟨k / 2, fd, by omega, j1, ifF t0 (ifT (bang (DL.binI (vI rfl) cI (by rw [e_eq, decide_eq_true (by omega)]))) (drop (appI rfl (d := nD (k / 2)) (DL.binI sb cI ?_) rfl pl)))⟩
            rw [e_div (by omega) (by omega), show (k : Int) / 2 = ((k / 2 : Nat) : Int) by omega]
            rfl
          · have t1 : t_of (x_bin p_eq (x_var 2) (x_c (.int 1))) [ac fd, im (.int (m : Int)), im (.int (sh : Int)), ac (Ps.map nD), im (nD (k + 1))] = some (false, [ac fd, im (.int (m : Int)), im (.int (sh : Int)), ac (Ps.map nD), im (nD (k + 1))]) := bang (DL.binI (vI rfl) cI (by rw [e_eq, decide_eq_false (by omega)]))
            by_cases c2 : sh = 2
            · obtain ⟨x, fd', x1, x2, x3⟩ := v_next j1 (k := ((k + 1 : Nat) : Int)) (by omega) (by omega)
              refine ⟨x, fd', by omega, x3, ifF t0 (ifF t1 (ifT (bang (DL.binI (vI rfl) cI (by rw [e_eq, decide_eq_true (by omega)]))) (drop (appI rfl (callMI rfl (vI rfl) x1) rfl pl))))⟩
            · have t2 : t_of (x_bin p_eq (x_var 2) (x_c (.int 2))) [ac fd, im (.int (m : Int)), im (.int (sh : Int)), ac (Ps.map nD), im (nD (k + 1))] = some (false, [ac fd, im (.int (m : Int)), im (.int (sh : Int)), ac (Ps.map nD), im (nD (k + 1))]) := bang (DL.binI (vI rfl) cI (by rw [e_eq, decide_eq_false (by omega)]))
              have y0 := Int.emod_nonneg (((k + 1 : Nat) : Int) / 3) (b := 3) (by omega)
              generalize hy : ((k + 1 : Nat) : Int) / 3 % 3 = y at y0
              have md : x_bin p_mod (x_cb c_int (a_cons (x_bin p_div (x_var 4) (x_c (.int 3))) a_nil)) (x_c (.int 3)) [ac fd, im (.int (m : Int)), im (.int (sh : Int)), ac (Ps.map nD), im (nD (k + 1))] = some (.im (.int y), [ac fd, im (.int (m : Int)), im (.int (sh : Int)), ac (Ps.map nD), im (nD (k + 1))]) := by
                rw [← hy]
                exact DL.binI (intI (DL.binI (vI rfl) cI (e_div (i := ((k + 1 : Nat) : Int)) (j := 3) (by omega) (by omega)))) cI (e_mod (by omega))
              have mx : x_cb c_max2 (a_cons (x_c (.int 0)) (a_cons (x_bin p_sub (x_bin p_sub (x_var 4) (x_c (.int 1))) (x_bin p_mod (x_cb c_int (a_cons (x_bin p_div (x_var 4) (x_c (.int 3))) a_nil)) (x_c (.int 3)))) a_nil)) [ac fd, im (.int (m : Int)), im (.int (sh : Int)), ac (Ps.map nD), im (nD (k + 1))] = some (.im (nD ((k : Int) - y).toNat), [ac fd, im (.int (m : Int)), im (.int (sh : Int)), ac (Ps.map nD), im (nD (k + 1))]) := by
                have s2 := DL.binI sb md (r := .im (.int ((k : Int) - y))) e_sub
                rw [r_x_cb, r_argsD, r_a_cons, r_x_c]
                simp only [r_a_cons, s2, r_a_nil, frzR, lookAll, lookR, c_max2]
                by_cases c : (k : Int) - y > 0
                · rw [if_pos c]
                  unfold nD
                  rw [show ((((k : Int) - y).toNat : Nat) : Int) = (k : Int) - y by omega]
                · rw [if_neg c]
                  unfold nD
                  rw [show ((((k : Int) - y).toNat : Nat) : Int) = 0 by omega]
              exact ⟨((k : Int) - y).toNat, fd, by omega, j1, ifF t0 (ifF t1 (ifF t2 (drop (appI rfl mx rfl pl))))⟩
      obtain ⟨x, fd', x1, x2, x3⟩ := main
      refine ⟨rfl, [ac fd, im (.int (m : Int)), im (.int (sh : Int)), ac (Ps.map nD), im (nD (k + 1))], _, rfl, .inl x3, fd', Ps ++ [x], im (nD (k + 1)), x2, by simp [j2], fun i z hz => ?_, by simp⟩
      by_cases c : i < Ps.length
      · rw [List.getElem?_append_left c] at hz
        exact j3 i z hz
      · rw [List.getElem?_append_right (by omega)] at hz
        have i0 : i - Ps.length = 0 := by
          have := (List.getElem?_eq_some_iff.mp hz).1
          simp only [List.length_cons, List.length_nil] at this
          omega
        rw [i0] at hz
        have : x = z := by simpa using hz
        omega
  subst g2
  refine ⟨Ps, fd2, ?_, by rw [k2, List.length_range], fun v hv => ?_, k1⟩
  · have st1 : s_setF 2 (x_callM F__law_next [] (a_cons (x_var 0) (a_cons (x_c (.int 4)) a_nil))) [ac fd, im (.int (m : Int)), none, none, none] = some (.nx [ac fd1, im (.int (m : Int)), im (.int (sh : Int)), none, none]) := setF (i := 2) (callMI (i := 0) (c' := fd1) rfl cI n1) rfl rfl
    have rg : i_rng2 (x_c (.int 1)) (x_bin p_add (x_var 1) (x_c (.int 1))) [ac fd1, im (.int (m : Int)), im (.int (sh : Int)), ac [], none] = some ((List.range m).map fun k => nD (k + 1), [ac fd1, im (.int (m : Int)), im (.int (sh : Int)), ac [], none]) := i_rng2_at (e1 := [ac fd1, im (.int (m : Int)), im (.int (sh : Int)), ac [], none]) rfl (DL.binI (vI rfl) cI e_add) (by omega)
    exact runMs (e := [im (.int (m : Int)), im (.int (sh : Int)), ac (Ps.map nD), s4]) rfl (sq st1 (sq (setX (i := 3) (r := .ac []) (e2 := [ac fd1, im (.int (m : Int)), im (.int (sh : Int)), ac [], none]) rfl rfl rfl) (sq (sf rg g1) (sr (ret (cbTv rfl))))))
  · unfold fp
    (rw [List.getD_eq_getElem?_getD])
    cases h : Ps[v - 1]? with
    | none => exact hv
    | some x =>
      have := k3 _ _ h
      show x < v
      omega
end K58
namespace K58
open PySem PySem.Spec PySem.W PyProof.Rows L2 DL
theorem pick_list {L : List Nat} {Q : Nat → Prop} {x : Nat} (h : ∀ m ∈ L, Q m) (hx : x < L.length) : ∃ m, Q m ∧ p_ix (lN L) (.int (x : Int)) = some (.im (nD m)) := by
  refine ⟨L[x], h _ (List.getElem_mem hx), e_ixL ?_⟩
  rw [List.getElem?_map, List.getElem?_eq_getElem hx]
  rfl
/-- heights that are drawn -/
theorem draw_loop (A B C D F G H I J K M : Option Sl) (mst : Nat) (h1 : 1 ≤ mst) (h2 : mst ≤ 99) : ∀ (ds : List PyData) (fd : List PyData) (acc : List Int), Fed fd → acc.length + ds.length ≤ 100 → ∃ (hs : List Int) (fd' : List PyData), hs.length = ds.length ∧ (∀ x ∈ hs, 1 ≤ x ∧ x ≤ 1000) ∧ Fed fd' ∧
    lcGo (g_name 7) t_yes (x_bin p_add (x_c (.int 1)) (x_callM F__law_next [] (a_cons (x_var 1) (a_cons (x_var 9) a_nil)))) [7] ds [A, ac fd, B, C, D, F, G, none, H, im (nD mst), I, J, K, M] (acc.map PyData.int)
      = some ((acc ++ hs).map PyData.int, [A, ac fd', B, C, D, F, G, none, H, im (nD mst), I, J, K, M])
  | [], fd, acc, hf, _ => ⟨[], fd, rfl, fun x h => (by cases h), hf, by simp [lcGo]⟩
  | d :: ds, fd, acc, hf, hl => by
    obtain ⟨x, fd1, n1, n2, n3⟩ := v_next hf (k := (mst : Int)) (by omega) (by omega)
    rw [List.length_cons] at hl
    obtain ⟨hs, fd2, k1, k2, k3, k4⟩ := draw_loop A B C D F G H I J K M mst h1 h2 ds fd1 (acc ++ [1 + (x : Int)]) n3 (by simp only [List.length_append, List.length_cons, List.length_nil]; omega)
    refine ⟨(1 + (x : Int)) :: hs, fd2, by rw [List.length_cons, List.length_cons, k1], fun y hy => ?_, k3, ?_⟩
    · rcases List.mem_cons.mp hy with e | m
      · omega
      · exact k2 y m
    · have el : x_bin p_add (x_c (.int 1)) (x_callM F__law_next [] (a_cons (x_var 1) (a_cons (x_var 9) a_nil))) [A, ac fd, B, C, D, F, G, im d, H, im (nD mst), I, J, K, M] = some (.im (.int (1 + (x : Int))), [A, ac fd1, B, C, D, F, G, im d, H, im (nD mst), I, J, K, M]) := DL.binI cI (callMI (i := 1) (c' := fd1) rfl (vI rfl) n1) e_add
      have g : g_name 7 d [A, ac fd, B, C, D, F, G, none, H, im (nD mst), I, J, K, M] = some [A, ac fd, B, C, D, F, G, im d, H, im (nD mst), I, J, K, M] := rfl
      simp only [lcGo, g, t_yes, el, frzR, imR]
      rw [if_pos (okLen_yes (by rw [List.length_map]; omega))]
      have w : wipeE [A, ac fd1, B, C, D, F, G, im d, H, im (nD mst), I, J, K, M] [7] = [A, ac fd1, B, C, D, F, G, none, H, im (nD mst), I, J, K, M] := rfl
      rw [w]
      have e : acc.map PyData.int ++ [PyData.int (1 + (x : Int))] = (acc ++ [1 + (x : Int)]).map PyData.int := by simp
      rw [e, k4, List.append_assoc]
      rfl
theorem rd_cells (ns : List Int) (hl : ns.length ≤ 63) : F_law [.list (ns.map PyData.int)] = some (.im (.bool true)) := by
  obtain ⟨fd0, f1, f2⟩ := v_feed ns hl
  generalize PyData.list (ns.map PyData.int) = SC at *
  obtain ⟨x1, fd1, a1, a2, a3⟩ := v_next f2 (k := 16) (by omega) (by omega)
  obtain ⟨m, m1, m2⟩ := pick_list (L := [5, 3, 6, 4, 7, 2, 5, 4, 6, 1, 3, 0, 8, 9, 7, 24]) (Q := fun m => m ≤ 24) (by decide) (x := x1) (by simp only [List.length_cons, List.length_nil]; omega)
  obtain ⟨P, fd2, b1, b2, hp, b4⟩ := v_history a3 m1
  have hn : P.length ≤ 1000 := by omega
  have qe := v_elders hp hn
  obtain ⟨ln, fd3, c1, c2, c3⟩ := v_next b4 (k := 3) (by omega) (by omega)
  have qel := fun (k : Nat) (hk : k + 1 ≤ P.length) => ixE1 (p := fp P) (m := P.length) (k := k) hk
  have led := fun (bs : List Nat) (h1 : bs.length = P.length) (h2 : Bas (fp P) (fp bs) P.length) => v_led hp hn h1 h2
  have cnt := fun (bs : List Nat) (h1 : bs.length = P.length) (h2 : Bas (fp P) (fp bs) P.length) => v_counts hp hn h1 h2
  have crs := fun (bs : List Nat) (h1 : bs.length = P.length) (h2 : Bas (fp P) (fp bs) P.length) => v_crossed hp hn h1 h2
  have byh := fun (hs : List Int) (more : Int) (h0 : hs.length = P.length) (h1 : ∀ x ∈ hs, 1 ≤ x ∧ x ≤ 1000) (h2 : 0 ≤ more) => v_by_heights hp hn h0 h1 h2
  generalize hEL : elL (fp P) P.length = EL at *
  -- the bases that are drawn
  obtain ⟨e3, g1, fd4, bs, o7, s13, k1, k2, k3, g2⟩ := forGo_inv (γ := g_name 7) (S := [7]) (fb := s_seq (s_setF 13 (x_callM F__law_next [] (a_cons (x_var 1) (a_cons (x_cb c_len (a_cons (x_ix (x_var 4) (x_var 7)) a_nil)) a_nil)))) (s_seq (s_if (t_and (t_of (x_bin p_eq (x_var 5) (x_c (.int 1)))) (t_of (x_bin p_gt (x_callM F__law_next [] (a_cons (x_var 1) (a_cons (x_c (.int 3)) a_nil))) (x_c (.int 0))))) (s_setF 13 (x_c (.int 0))) s_nx) (s_seq (s_drop (x_app 6 (x_ix (x_ix (x_var 4) (x_var 7)) (x_var 13)))) s_nx)))
    (fun k => nD (k + 1)) (List.range m) (fun pre e => ∃ fd bs o7 s13, Fed fd ∧ bs.length = pre.length ∧ (∀ (i x : Nat), bs[i]? = some x → x ∈ up (fp P) (i + 1)) ∧ e = [im SC, ac fd, im (nD m), im (tN P), im (.list EL), im (nD ln), ac (bs.map nD), (o7 : Option PyData).map Sl.im, none, none, none, none, none, s13])
    [im SC, ac fd3, im (nD m), im (tN P), im (.list EL), im (nD ln), ac [], none, none, none, none, none, none, none] ⟨fd3, [], none, none, c3, rfl, fun i x z => by simp at z, rfl⟩ fun pre k post hk e he => by
      obtain ⟨fd, bs, o7, s13, j1, j2, j3, rfl⟩ := he
      obtain ⟨kp, km⟩ := range_pre hk
      have qi := qel k (by omega)
      have ul := up_len hp (k + 1)
      have u1 : 1 ≤ (up (fp P) (k + 1)).length := by
        rw [up_pos hp (v := k + 1) (by omega), List.length_cons]
        omega
      obtain ⟨x, fd5, d1, d2, d3⟩ := v_next j1 (k := (((up (fp P) (k + 1)).length : Nat) : Int)) (by omega) (by omega)
      have bl : (bs.map nD).length ≤ 100000 := by
        rw [List.length_map, j2]
        omega
      have st1 : s_setF 13 (x_callM F__law_next [] (a_cons (x_var 1) (a_cons (x_cb c_len (a_cons (x_ix (x_var 4) (x_var 7)) a_nil)) a_nil))) [im SC, ac fd, im (nD m), im (tN P), im (.list EL), im (nD ln), ac (bs.map nD), im (nD (k + 1)), none, none, none, none, none, s13]
          = some (.nx [im SC, ac fd5, im (nD m), im (tN P), im (.list EL), im (nD ln), ac (bs.map nD), im (nD (k + 1)), none, none, none, none, none, im (nD x)]) := by
        have lk : x_cb c_len (a_cons (x_ix (x_var 4) (x_var 7)) a_nil) [im SC, ac fd, im (nD m), im (tN P), im (.list EL), im (nD ln), ac (bs.map nD), im (nD (k + 1)), none, none, none, none, none, s13] = some (.im (.int (((up (fp P) (k + 1)).length : Nat) : Int)), [im SC, ac fd, im (nD m), im (tN P), im (.list EL), im (nD ln), ac (bs.map nD), im (nD (k + 1)), none, none, none, none, none, s13]) := by
          have z := lenI (DL.binI (φ := p_ix) (f := x_var 4) (g := x_var 7) (e := [im SC, ac fd, im (nD m), im (tN P), im (.list EL), im (nD ln), ac (bs.map nD), im (nD (k + 1)), none, none, none, none, none, s13]) (vI rfl) (vI rfl) qi)
          rw [List.length_map] at z
          exact z
        exact setF (i := 13) (callMI (i := 1) (c' := fd5) rfl lk d1) rfl rfl
      -- the choice stays among the elders
      have st2 : ∃ (y : Nat) (fd6 : List PyData), y < (up (fp P) (k + 1)).length ∧ Fed fd6 ∧ s_if (t_and (t_of (x_bin p_eq (x_var 5) (x_c (.int 1)))) (t_of (x_bin p_gt (x_callM F__law_next [] (a_cons (x_var 1) (a_cons (x_c (.int 3)) a_nil))) (x_c (.int 0))))) (s_setF 13 (x_c (.int 0))) s_nx [im SC, ac fd5, im (nD m), im (tN P), im (.list EL), im (nD ln), ac (bs.map nD), im (nD (k + 1)), none, none, none, none, none, im (nD x)]
          = some (.nx [im SC, ac fd6, im (nD m), im (tN P), im (.list EL), im (nD ln), ac (bs.map nD), im (nD (k + 1)), none, none, none, none, none, im (nD y)]) := by
        by_cases c : ln = 1
        · obtain ⟨w, fd6, e1, e2, e3⟩ := v_next d3 (k := 3) (by omega) (by omega)
          have t1 : t_of (x_bin p_eq (x_var 5) (x_c (.int 1))) [im SC, ac fd5, im (nD m), im (tN P), im (.list EL), im (nD ln), ac (bs.map nD), im (nD (k + 1)), none, none, none, none, none, im (nD x)] = some (true, [im SC, ac fd5, im (nD m), im (tN P), im (.list EL), im (nD ln), ac (bs.map nD), im (nD (k + 1)), none, none, none, none, none, im (nD x)]) := bang (DL.binI (vI rfl) cI (by show p_eq (.int (ln : Int)) (.int 1) = _; rw [e_eq, decide_eq_true (by omega)]))
          have t2 : t_of (x_bin p_gt (x_callM F__law_next [] (a_cons (x_var 1) (a_cons (x_c (.int 3)) a_nil))) (x_c (.int 0))) [im SC, ac fd5, im (nD m), im (tN P), im (.list EL), im (nD ln), ac (bs.map nD), im (nD (k + 1)), none, none, none, none, none, im (nD x)] = some (decide ((0 : Int) < (w : Int)), [im SC, ac fd6, im (nD m), im (tN P), im (.list EL), im (nD ln), ac (bs.map nD), im (nD (k + 1)), none, none, none, none, none, im (nD x)]) := bang (DL.binI (callMI (i := 1) (c' := fd6) rfl cI e1) cI e_gt)
          by_cases c0 : (0 : Int) < (w : Int)
          · rw [decide_eq_true c0] at t2
            exact ⟨0, fd6, by omega, e3, ifT (tandT t1 t2) (setF (i := 13) (d := nD 0) (r := .im (nD 0)) (e1 := [im SC, ac fd6, im (nD m), im (tN P), im (.list EL), im (nD ln), ac (bs.map nD), im (nD (k + 1)), none, none, none, none, none, im (nD x)]) rfl rfl rfl)⟩
          · rw [decide_eq_false c0] at t2
            exact ⟨x, fd6, by omega, e3, ifF (tandT t1 t2) rfl⟩
        · exact ⟨x, fd5, by omega, d3, ifF (tandF (bang (DL.binI (vI rfl) cI (by show p_eq (.int (ln : Int)) (.int 1) = _; rw [e_eq, decide_eq_false (by omega)])))) rfl⟩
      obtain ⟨y, fd6, y1, y2, y3⟩ := st2
      have yv : ∃ u, (up (fp P) (k + 1))[y]? = some u := ⟨_, List.getElem?_eq_getElem y1⟩
      obtain ⟨u, hu⟩ := yv
      have mu : u ∈ up (fp P) (k + 1) := List.mem_of_getElem? hu
      have qu : p_ix (lN (up (fp P) (k + 1))) (nD y) = some (.im (nD u)) := e_ixL (by rw [List.getElem?_map, hu]; rfl)
      refine ⟨rfl, [im SC, ac fd, im (nD m), im (tN P), im (.list EL), im (nD ln), ac (bs.map nD), im (nD (k + 1)), none, none, none, none, none, s13], [im SC, ac fd6, im (nD m), im (tN P), im (.list EL), im (nD ln), ac (bs.map nD ++ [nD u]), im (nD (k + 1)), none, none, none, none, none, im (nD y)], rfl, .inl (sq st1 (sq y3 (sq (drop (appI (i := 6) (e1 := [im SC, ac fd6, im (nD m), im (tN P), im (.list EL), im (nD ln), ac (bs.map nD), im (nD (k + 1)), none, none, none, none, none, im (nD y)]) rfl (DL.binI (DL.binI (vI rfl) (vI rfl) qi) (vI rfl) qu) rfl bl)) rfl))), fd6, bs ++ [u], some (nD (k + 1)), im (nD y), y2, by simp [j2], fun i z hz => ?_, by simp⟩
      by_cases c : i < bs.length
      · rw [List.getElem?_append_left c] at hz
        exact j3 i z hz
      · rw [List.getElem?_append_right (by omega)] at hz
        have i0 : i - bs.length = 0 := by
          have := (List.getElem?_eq_some_iff.mp hz).1
          simp only [List.length_cons, List.length_nil] at this
          omega
        rw [i0] at hz
        have e1 : u = z := by simpa using hz
        have e2 : i = k := by omega
        rw [← e1, e2]
        exact mu
  subst g2
  rw [List.length_range] at k2
  have bl : bs.length = P.length := by omega
  have bb : Bas (fp P) (fp bs) P.length := fun z h1 h2 => by
    have := k3 (z - 1) _ (fp_get (P := bs) h1 (by omega))
    rw [Nat.sub_add_cancel h1] at this
    exact this
  have hh := v_heights_of hp hn bl bb
  have pb := v_bases_by hp hn (hsOf_len (fp bs) P.length) hsOf_pos
  have pll := planL_len (fp P) (fz (hsOf (fp bs) P.length)) P.length
  have plb := planL_bas hp (fz (hsOf (fp bs) P.length)) P.length
  generalize planL (fp P) (fz (hsOf (fp bs) P.length)) P.length = PL at *
  generalize hsOf (fp bs) P.length = HO at *
  have r1 := led bs bl bb
  have r2 := cnt bs bl bb
  have r3 := cnt PL pll plb
  have r4 := crs PL pll plb
  obtain ⟨x9, fd5, d1, d2, d3⟩ := v_next k1 (k := 4) (by omega) (by omega)
  obtain ⟨ms, ms1, ms2⟩ := pick_list (L := [4, 3, 99, 2]) (Q := fun m => 1 ≤ m ∧ m ≤ 99) (by decide) (x := x9) (by simp only [List.length_cons, List.length_nil]; omega)
  obtain ⟨hs, fd6, l1, l2, l3, l4⟩ := draw_loop (im SC) (im (nD m)) (im (tN P)) (im (.list EL)) (im (nD ln)) (im (tN bs)) (im (tN PL)) none none none s13 ms ms1.1 ms1.2 ((List.range m).map nD) fd5 [] d3 (by simp only [List.length_map, List.length_range, List.length_nil]; omega)
  rw [List.length_map, List.length_range] at l1
  rw [List.nil_append] at l4
  obtain ⟨x11, fd7, t1, t2, t3⟩ := v_next l3 (k := 4) (by omega) (by omega)
  obtain ⟨mo, mo1, mo2⟩ := pick_list (L := [1, 40, 10 ^ 25, 998]) (Q := fun m => 0 ≤ m) (fun m _ => Nat.zero_le m) (x := x11) (by simp only [List.length_cons, List.length_nil]; omega)
  have r5 := byh hs (mo : Int) (by omega) l2 (by omega)
  obtain ⟨x12, fd8, u1, u2, u3⟩ := v_next t3 (k := 16) (by omega) (by omega)
  obtain ⟨fw, fw1, fw2⟩ := pick_list (L := [3, 2, 4, 1, 4, 3, 0, 4, 3, 4, 2, 4, 3, 4, 4, 5]) (Q := fun m => m ≤ 5) (by decide) (x := x12) (by simp only [List.length_cons, List.length_nil]; omega)
  obtain ⟨P2, fd9, w1, w2, hp2, w4⟩ := v_history u3 (m := fw) (by omega)
  have sm := v_small hp2 (by omega)
  generalize hO : o7.map Sl.im = O7 at *
  have oac : isAc (some O7) = false := by
    rw [← hO]
    cases o7 <;> rfl
  have t10 : x_lc (i_rng1 (x_var 2)) (g_name 7) t_yes (x_bin p_add (x_c (.int 1)) (x_callM F__law_next [] (a_cons (x_var 1) (a_cons (x_var 9) a_nil)))) [7] [im SC, ac fd5, im (nD m), im (tN P), im (.list EL), im (nD ln), im (tN bs), O7, im (tN PL), im (nD ms), none, none, none, s13]
      = some (.ac (hs.map PyData.int), [im SC, ac fd6, im (nD m), im (tN P), im (.list EL), im (nD ln), im (tN bs), O7, im (tN PL), im (nD ms), none, none, none, s13]) := by
    rw [r_x_lc, i_rng1_at (m := m) (e1 := [im SC, ac fd5, im (nD m), im (tN P), im (.list EL), im (nD ln), im (tN bs), O7, im (tN PL), im (nD ms), none, none, none, s13]) rfl (by omega)]
    have na : noAc [im SC, ac fd5, im (nD m), im (tN P), im (.list EL), im (nD ln), im (tN bs), O7, im (tN PL), im (nD ms), none, none, none, s13] [7] = true := by
      show (!isAc (some O7) && true) = true
      rw [oac]
      rfl
    have we : wipeE [im SC, ac fd5, im (nD m), im (tN P), im (.list EL), im (nD ln), im (tN bs), O7, im (tN PL), im (nD ms), none, none, none, s13] [7] = [im SC, ac fd5, im (nD m), im (tN P), im (.list EL), im (nD ln), im (tN bs), none, im (tN PL), im (nD ms), none, none, none, s13] := rfl
    simp only [na, if_true, we]
    have l4' : lcGo (g_name 7) t_yes (x_bin p_add (x_c (.int 1)) (x_callM F__law_next [] (a_cons (x_var 1) (a_cons (x_var 9) a_nil)))) [7] ((List.range m).map nD) [im SC, ac fd5, im (nD m), im (tN P), im (.list EL), im (nD ln), im (tN bs), none, im (tN PL), im (nD ms), none, none, none, s13] [] = some (hs.map PyData.int, [im SC, ac fd6, im (nD m), im (tN P), im (.list EL), im (nD ln), im (tN bs), none, im (tN PL), im (nD ms), none, none, none, s13]) := l4
    rw [l4']
    rfl
  have l16 : x_lst (a_cons (x_c (.int 5)) (a_cons (x_c (.int 3)) (a_cons (x_c (.int 6)) (a_cons (x_c (.int 4)) (a_cons (x_c (.int 7)) (a_cons (x_c (.int 2)) (a_cons (x_c (.int 5)) (a_cons (x_c (.int 4)) (a_cons (x_c (.int 6)) (a_cons (x_c (.int 1)) (a_cons (x_c (.int 3)) (a_cons (x_c (.int 0)) (a_cons (x_c (.int 8)) (a_cons (x_c (.int 9)) (a_cons (x_c (.int 7)) (a_cons (x_c (.int 24)) a_nil)))))))))))))))) [im SC, ac fd0, none, none, none, none, none, none, none, none, none, none, none, none] = some (.ac ([5, 3, 6, 4, 7, 2, 5, 4, 6, 1, 3, 0, 8, 9, 7, 24].map nD), [im SC, ac fd0, none, none, none, none, none, none, none, none, none, none, none, none]) := rfl
  have la : x_lst (a_cons (x_c (.int 4)) (a_cons (x_c (.int 3)) (a_cons (x_c (.int 99)) (a_cons (x_c (.int 2)) a_nil)))) [im SC, ac fd4, im (nD m), im (tN P), im (.list EL), im (nD ln), im (tN bs), O7, im (tN PL), none, none, none, none, s13] = some (.ac ([4, 3, 99, 2].map nD), [im SC, ac fd4, im (nD m), im (tN P), im (.list EL), im (nD ln), im (tN bs), O7, im (tN PL), none, none, none, none, s13]) := rfl
  have lm : x_lst (a_cons (x_c (.int 1)) (a_cons (x_c (.int 40)) (a_cons (x_bin p_pow (x_c (.int 10)) (x_c (.int 25))) (a_cons (x_c (.int 998)) a_nil)))) [im SC, ac fd6, im (nD m), im (tN P), im (.list EL), im (nD ln), im (tN bs), O7, im (tN PL), im (nD ms), im (tZ hs), none, none, s13] = some (.ac ([1, 40, 10 ^ 25, 998].map nD), [im SC, ac fd6, im (nD m), im (tN P), im (.list EL), im (nD ln), im (tN bs), O7, im (tN PL), im (nD ms), im (tZ hs), none, none, s13]) := rfl
  have lf : x_lst (a_cons (x_c (.int 3)) (a_cons (x_c (.int 2)) (a_cons (x_c (.int 4)) (a_cons (x_c (.int 1)) (a_cons (x_c (.int 4)) (a_cons (x_c (.int 3)) (a_cons (x_c (.int 0)) (a_cons (x_c (.int 4)) (a_cons (x_c (.int 3)) (a_cons (x_c (.int 4)) (a_cons (x_c (.int 2)) (a_cons (x_c (.int 4)) (a_cons (x_c (.int 3)) (a_cons (x_c (.int 4)) (a_cons (x_c (.int 4)) (a_cons (x_c (.int 5)) a_nil)))))))))))))))) [im SC, ac fd7, im (nD m), im (tN P), im (.list EL), im (nD ln), im (tN bs), O7, im (tN PL), im (nD ms), im (tZ hs), im (nD mo), none, s13] = some (.ac ([3, 2, 4, 1, 4, 3, 0, 4, 3, 4, 2, 4, 3, 4, 4, 5].map nD), [im SC, ac fd7, im (nD m), im (tN P), im (.list EL), im (nD ln), im (tN bs), O7, im (tN PL), im (nD ms), im (tZ hs), im (nD mo), none, s13]) := rfl
  have hr : i_rng2 (x_c (.int 1)) (x_bin p_add (x_var 2) (x_c (.int 1))) [im SC, ac fd3, im (nD m), im (tN P), im (.list EL), im (nD ln), ac [], none, none, none, none, none, none, none] = some ((List.range m).map fun k => nD (k + 1), [im SC, ac fd3, im (nD m), im (tN P), im (.list EL), im (nD ln), ac [], none, none, none, none, none, none, none]) := i_rng2_at (e1 := [im SC, ac fd3, im (nD m), im (tN P), im (.list EL), im (nD ln), ac [], none, none, none, none, none, none, none]) rfl (DL.binI (vI rfl) cI e_add) (by omega)
  refine runs (r := .im (.bool true)) (e := [im SC, ac fd9, im (nD m), im (tN P), im (.list EL), im (nD ln), im (tN bs), O7, im (tN PL), im (nD ms), im (tZ hs), im (nD mo), im (nD fw), s13]) rfl (sq (setX (i := 1) (r := .ac fd0) (e2 := [im SC, ac fd0, none, none, none, none, none, none, none, none, none, none, none, none]) (callA (aI (vI rfl) a0) rfl f1) rfl rfl) (sq (setF (i := 2) (binAI l16 (callMI (i := 1) (c' := fd1) rfl cI a1) m2) rfl rfl) (sq (setF (i := 3) (callMI (i := 1) (c' := fd2) rfl (vI rfl) b1) rfl rfl) (sq (setF (i := 4) (d := .list EL) (callA (aI (vI rfl) a0) rfl qe) rfl rfl) (sq (setF (i := 5) (callMI (i := 1) (c' := fd3) rfl cI c1) rfl rfl) (sq (setX (i := 6) (r := .ac []) (e2 := [im SC, ac fd3, im (nD m), im (tN P), im (.list EL), im (nD ln), ac [], none, none, none, none, none, none, none]) rfl rfl rfl) (sq (sf hr g1) ?_))))))) rfl
  have z1 : s_fz 6 (s_if (t_or (t_not (t_of (x_call F__law_led_right [] (a_cons (x_var 3) (a_cons (x_var 4) (a_cons (x_var 6) a_nil)))))) (t_not (t_of (x_call F__law_counts_right [] (a_cons (x_var 3) (a_cons (x_var 4) (a_cons (x_var 6) a_nil))))))) (s_ret (x_c (.bool false))) s_nx) [im SC, ac fd4, im (nD m), im (tN P), im (.list EL), im (nD ln), im (tN bs), O7, none, none, none, none, none, s13] = some (.nx [im SC, ac fd4, im (nD m), im (tN P), im (.list EL), im (nD ln), im (tN bs), O7, none, none, none, none, none, s13]) := by
    rw [r_s_fz]
    have fe : fzE 6 [im SC, ac fd4, im (nD m), im (tN P), im (.list EL), im (nD ln), im (tN bs), O7, none, none, none, none, none, s13] = [im SC, ac fd4, im (nD m), im (tN P), im (.list EL), im (nD ln), im (tN bs), O7, none, none, none, none, none, s13] := rfl
    rw [fe]
    exact ifF (torF (tnot (b := true) (bang (callI (aI (vI rfl) (aI (vI rfl) (aI (vI rfl) a0))) rfl r1))) (tnot (b := true) (bang (callI (aI (vI rfl) (aI (vI rfl) (aI (vI rfl) a0))) rfl r2)))) rfl
  have z2 : s_fz 6 (s_setF 8 (x_call F_bases_by [] (a_cons (x_var 3) (a_cons (x_call F_heights_of [] (a_cons (x_var 3) (a_cons (x_var 6) a_nil))) a_nil)))) [im SC, ac fd4, im (nD m), im (tN P), im (.list EL), im (nD ln), im (tN bs), O7, none, none, none, none, none, s13] = some (.nx [im SC, ac fd4, im (nD m), im (tN P), im (.list EL), im (nD ln), im (tN bs), O7, im (tN PL), none, none, none, none, s13]) := by
    rw [r_s_fz]
    have fe : fzE 6 [im SC, ac fd4, im (nD m), im (tN P), im (.list EL), im (nD ln), im (tN bs), O7, none, none, none, none, none, s13] = [im SC, ac fd4, im (nD m), im (tN P), im (.list EL), im (nD ln), im (tN bs), O7, none, none, none, none, none, s13] := rfl
    rw [fe]
    exact setF (i := 8) (callI (aI (vI rfl) (aI (callI (aI (vI rfl) (aI (vI rfl) a0)) rfl hh) a0)) rfl pb) rfl rfl
  exact sq (setX (i := 6) (r := .im (tN bs)) (e2 := [im SC, ac fd4, im (nD m), im (tN P), im (.list EL), im (nD ln), im (tN bs), O7, none, none, none, none, none, s13]) (cbTv rfl) rfl rfl) (sq z1 (sq z2 (sq (ifF (torF (tnot (b := true) (bang (callI (aI (vI rfl) (aI (vI rfl) (aI (vI rfl) a0))) rfl r3))) (tnot (b := true) (bang (callI (aI (vI rfl) (aI (vI rfl) (aI (vI rfl) a0))) rfl r4)))) rfl)
    (sq (setF (i := 9) (binAI la (callMI (i := 1) (c' := fd5) rfl cI d1) ms2) rfl rfl) (sq (setF (i := 10) (cbT t10) rfl rfl) (sq (setF (i := 11) (binAI lm (callMI (i := 1) (c' := fd7) rfl cI t1) mo2) rfl rfl) (sq (ifF (tnot (b := true) (bang (callI (aI (vI rfl) (aI (vI rfl) (aI (vI rfl) (aI (vI rfl) a0)))) rfl r5))) rfl)
    (sq (setF (i := 12) (binAI lf (callMI (i := 1) (c' := fd8) rfl cI u1) fw2) rfl rfl) (sr (ret (callI (aI (callMI (i := 1) (c' := fd9) rfl (vI rfl) w1) a0) rfl sm)))))))))))
end K58
namespace K58
open PySem PySem.Spec PyProof.Rows L2 DL
theorem law_true (ns : List Int) (h : ns.length ≤ 63) : F_law [.list (ns.map PyData.int)] = some (.im (.bool true)) := rd_cells ns h
end K58
namespace K58
open PySem PySem.Spec PyProof.Rows L2 DL
def level : Nat := 11
def spLaw (K : PySem.W.Frag) : Sp := fun vs H Q _ => ∃ (a : Addr) (ns : List Int), vs = [.ref a] ∧ SqL K H a (ns.map V.int) ∧ ns.length ≤ 63 ∧ ∀ H', Q (.bl true) H'
theorem law_imp {P : Program} {w : World} {K : PySem.W.Frag} {mg : Str → Option Value} {base : Heap} {f : Addr} {fd : FuncData} (h : FnOk P w K mg base CX0 11 f fd ["_law_script"] (spD K 1 F_law)) : FnOk P w K mg base CX0 level f fd ["_law_script"] (spLaw K) := by
  refine h.imp fun vs H Q E z => ?_
  obtain ⟨a, ns, rfl, hs, hl, q⟩ := z
  refine ⟨H, [.list (ns.map PyData.int)], _, Same.refl H, .cons (.lst hs (dpAll_ints ns)) .nil, rfl, law_true ns hl, fun v G' H' _ _ _ _ d => ?_⟩
  cases d
  exact q H'
theorem facts {P : Program} {w : World} {K : PySem.W.Frag} {h : Heap} {mg : Str → Option Value} {f : Addr} (X : K.In h) (G : h.Ns mainGlobals mg) (hfa : mg ("law" : Str) = some (.ref f)) (c : He.SaysD fa fn K) :
    ∃ fd : FuncData, (∀ (s : Shared) (v : Value), BindsTo s fd ⟨[v], []⟩ [("_law_script", v)]) ∧ ∀ base : Heap, K.In base → base.Ns mainGlobals mg → FnOk P w K mg base CX0 level f fd ["_law_script"] (spLaw K) := by
  have B : Bi mg := ⟨He.free_ok X G (c.fact 43 (f := .free "abs") rfl), He.free_ok X G (c.fact 44 (f := .free "all") rfl), He.free_ok X G (c.fact 45 (f := .free "bool") rfl), He.free_ok X G (c.fact 46 (f := .free "enumerate") rfl), He.free_ok X G (c.fact 47 (f := .free "int") rfl), He.free_ok X G (c.fact 48 (f := .free "isinstance") rfl), He.free_ok X G (c.fact 49 (f := .free "len") rfl), He.free_ok X G (c.fact 50 (f := .free "list") rfl), He.free_ok X G (c.fact 51 (f := .free "max") rfl), He.free_ok X G (c.fact 52 (f := .free "range") rfl), He.free_ok X G (c.fact 53 (f := .free "reversed") rfl), He.free_ok X G (c.fact 54 (f := .free "set") rfl), He.free_ok X G (c.fact 55 (f := .free "sorted") rfl), He.free_ok X G (c.fact 56 (f := .free "tuple") rfl), He.free_ok X G (c.fact 57 (f := .free "zip") rfl)⟩
  obtain ⟨fd_is_integer, F_is_integer_⟩ := c.def_ 0 (d := d_is_integer) rfl
  obtain ⟨fd_many_of, F_many_of_⟩ := c.def_ 4 (d := d_many_of) rfl
  obtain ⟨fd__upward, F__upward_⟩ := c.def_ 5 (d := d__upward) rfl
  obtain ⟨fd_chain_from, F_chain_from_⟩ := c.def_ 14 (d := d_chain_from) rfl
  obtain ⟨fd__law_feed, F__law_feed_⟩ := c.def_ 23 (d := d__law_feed) rfl
  obtain ⟨fd__law_next, F__law_next_⟩ := c.def_ 24 (d := d__law_next) rfl
  obtain ⟨fd__law_elders, F__law_elders_⟩ := c.def_ 26 (d := d__law_elders) rfl
  obtain ⟨fd__law_higher, F__law_higher_⟩ := c.def_ 27 (d := d__law_higher) rfl
  obtain ⟨fd__law_crossing, F__law_crossing_⟩ := c.def_ 28 (d := d__law_crossing) rfl
  obtain ⟨fd__law_reads, F__law_reads_⟩ := c.def_ 29 (d := d__law_reads) rfl
  obtain ⟨fd__law_writes, F__law_writes_⟩ := c.def_ 31 (d := d__law_writes) rfl
  obtain ⟨fd__law_same, F__law_same_⟩ := c.def_ 32 (d := d__law_same) rfl
  obtain ⟨fd__law_all_at_most, F__law_all_at_most_⟩ := c.def_ 33 (d := d__law_all_at_most) rfl
  obtain ⟨fd__law_all_rows, F__law_all_rows_⟩ := c.def_ 39 (d := d__law_all_rows) rfl
  obtain ⟨fd_is_number, F_is_number_⟩ := c.def_ 1 (d := d_is_number) rfl
  obtain ⟨fd_is_natural, F_is_natural_⟩ := c.def_ 2 (d := d_is_natural) rfl
  obtain ⟨fd__law_history, F__law_history_⟩ := c.def_ 25 (d := d__law_history) rfl
  obtain ⟨fd__law_heights, F__law_heights_⟩ := c.def_ 30 (d := d__law_heights) rfl
  obtain ⟨fd_check_version, F_check_version_⟩ := c.def_ 3 (d := d_check_version) rfl
  obtain ⟨fd_ask_version, F_ask_version_⟩ := c.def_ 13 (d := d_ask_version) rfl
  obtain ⟨fd_is_heights, F_is_heights_⟩ := c.def_ 19 (d := d_is_heights) rfl
  obtain ⟨fd_path_of, F_path_of_⟩ := c.def_ 6 (d := d_path_of) rfl
  obtain ⟨fd_is_elder, F_is_elder_⟩ := c.def_ 7 (d := d_is_elder) rfl
  obtain ⟨fd_bases_by, F_bases_by_⟩ := c.def_ 20 (d := d_bases_by) rfl
  obtain ⟨fd_is_bases, F_is_bases_⟩ := c.def_ 8 (d := d_is_bases) rfl
  obtain ⟨fd_first_crossing, F_first_crossing_⟩ := c.def_ 9 (d := d_first_crossing) rfl
  obtain ⟨fd_sheet_from, F_sheet_from_⟩ := c.def_ 15 (d := d_sheet_from) rfl
  obtain ⟨fd_records_of, F_records_of_⟩ := c.def_ 22 (d := d_records_of) rfl
  obtain ⟨fd_is_plan, F_is_plan_⟩ := c.def_ 10 (d := d_is_plan) rfl
  obtain ⟨fd_crossing_of, F_crossing_of_⟩ := c.def_ 11 (d := d_crossing_of) rfl
  obtain ⟨fd_ask_bases, F_ask_bases_⟩ := c.def_ 12 (d := d_ask_bases) rfl
  obtain ⟨fd_chain_of, F_chain_of_⟩ := c.def_ 16 (d := d_chain_of) rfl
  obtain ⟨fd_reads_by, F_reads_by_⟩ := c.def_ 17 (d := d_reads_by) rfl
  obtain ⟨fd_writes_by, F_writes_by_⟩ := c.def_ 18 (d := d_writes_by) rfl
  obtain ⟨fd__law_crossed_right, F__law_crossed_right_⟩ := c.def_ 34 (d := d__law_crossed_right) rfl
  obtain ⟨fd_heights_of, F_heights_of_⟩ := c.def_ 21 (d := d_heights_of) rfl
  obtain ⟨fd__law_counts_right, F__law_counts_right_⟩ := c.def_ 36 (d := d__law_counts_right) rfl
  obtain ⟨fd__law_records_right, F__law_records_right_⟩ := c.def_ 37 (d := d__law_records_right) rfl
  obtain ⟨fd__law_led_right, F__law_led_right_⟩ := c.def_ 35 (d := d__law_led_right) rfl
  obtain ⟨fd__law_by_heights, F__law_by_heights_⟩ := c.def_ 38 (d := d__law_by_heights) rfl
  obtain ⟨fd__law_small, F__law_small_⟩ := c.def_ 40 (d := d__law_small) rfl
  obtain ⟨fd_law, F_law_⟩ := c.def_ 41 (d := d_law) rfl
  have e := hfa.symm.trans (He.glo_ok X G (c.fact 41 (f := .glo "law") rfl))
  cases e
  have b := FunD.bindsA (ps := ["_law_script"]) F_law_ fun _ _ _ _ _ _ us hl => match us, hl with | [_], _ => rfl
  refine ⟨fd_law, fun s v => b s [v] rfl, fun base _ _ => ?_⟩
  have k_is_integer := ok_is_integer (P := P) (w := w) (mg := mg) (base := base) B F_is_integer_
  have c_is_integer := kfN F_is_integer_ k_is_integer (He.glo_ok X G (c.fact 0 (f := .glo "is_integer") rfl)) fun _ _ _ _ _ _ us hl => match us, hl with | [_], _ => rfl
  have k_many_of := ok_many_of (P := P) (w := w) (mg := mg) (base := base) B F_many_of_
  have c_many_of := kfN F_many_of_ k_many_of (He.glo_ok X G (c.fact 4 (f := .glo "many_of") rfl)) fun _ _ _ _ _ _ us hl => match us, hl with | [_], _ => rfl
  have k__upward := ok__upward (P := P) (w := w) (mg := mg) (base := base) F__upward_
  have c__upward := kfN F__upward_ k__upward (He.glo_ok X G (c.fact 5 (f := .glo "_upward") rfl)) fun _ _ _ _ _ _ us hl => match us, hl with | [_, _], _ => rfl
  have k_chain_from := ok_chain_from (P := P) (w := w) (mg := mg) (base := base) F_chain_from_
  have c_chain_from := kfN F_chain_from_ k_chain_from (He.glo_ok X G (c.fact 14 (f := .glo "chain_from") rfl)) fun _ _ _ _ _ _ us hl => match us, hl with | [_, _], _ => rfl
  have k__law_feed := ok__law_feed (P := P) (w := w) (mg := mg) (base := base) B F__law_feed_
  have c__law_feed := kfN F__law_feed_ k__law_feed (He.glo_ok X G (c.fact 23 (f := .glo "_law_feed") rfl)) fun _ _ _ _ _ _ us hl => match us, hl with | [_], _ => rfl
  have k__law_next := ok__law_next (P := P) (w := w) (mg := mg) (base := base) B F__law_next_
  have c__law_next := kfN F__law_next_ k__law_next (He.glo_ok X G (c.fact 24 (f := .glo "_law_next") rfl)) fun _ _ _ _ _ _ us hl => match us, hl with | [_, _], _ => rfl
  have k__law_elders := ok__law_elders (P := P) (w := w) (mg := mg) (base := base) F__law_elders_
  have c__law_elders := kfN F__law_elders_ k__law_elders (He.glo_ok X G (c.fact 26 (f := .glo "_law_elders") rfl)) fun _ _ _ _ _ _ us hl => match us, hl with | [_], _ => rfl
  have k__law_higher := ok__law_higher (P := P) (w := w) (mg := mg) (base := base) B F__law_higher_
  have c__law_higher := kfN F__law_higher_ k__law_higher (He.glo_ok X G (c.fact 27 (f := .glo "_law_higher") rfl)) fun _ _ _ _ _ _ us hl => match us, hl with | [_, _], _ => rfl
  have k__law_crossing := ok__law_crossing (P := P) (w := w) (mg := mg) (base := base) B F__law_crossing_
  have c__law_crossing := kfN F__law_crossing_ k__law_crossing (He.glo_ok X G (c.fact 28 (f := .glo "_law_crossing") rfl)) fun _ _ _ _ _ _ us hl => match us, hl with | [_, _], _ => rfl
  have k__law_reads := ok__law_reads (P := P) (w := w) (mg := mg) (base := base) F__law_reads_
  have c__law_reads := kfN F__law_reads_ k__law_reads (He.glo_ok X G (c.fact 29 (f := .glo "_law_reads") rfl)) fun _ _ _ _ _ _ us hl => match us, hl with | [_], _ => rfl
  have k__law_writes := ok__law_writes (P := P) (w := w) (mg := mg) (base := base) B F__law_writes_
  have c__law_writes := kfN F__law_writes_ k__law_writes (He.glo_ok X G (c.fact 31 (f := .glo "_law_writes") rfl)) fun _ _ _ _ _ _ us hl => match us, hl with | [_, _], _ => rfl
  have k__law_same := ok__law_same (P := P) (w := w) (mg := mg) (base := base) B F__law_same_
  have c__law_same := kfN F__law_same_ k__law_same (He.glo_ok X G (c.fact 32 (f := .glo "_law_same") rfl)) fun _ _ _ _ _ _ us hl => match us, hl with | [_, _], _ => rfl
  have k__law_all_at_most := ok__law_all_at_most (P := P) (w := w) (mg := mg) (base := base) B F__law_all_at_most_
  have c__law_all_at_most := kfN F__law_all_at_most_ k__law_all_at_most (He.glo_ok X G (c.fact 33 (f := .glo "_law_all_at_most") rfl)) fun _ _ _ _ _ _ us hl => match us, hl with | [_, _], _ => rfl
  have k__law_all_rows := ok__law_all_rows (P := P) (w := w) (mg := mg) (base := base) B F__law_all_rows_
  have c__law_all_rows := kfN F__law_all_rows_ k__law_all_rows (He.glo_ok X G (c.fact 39 (f := .glo "_law_all_rows") rfl)) fun _ _ _ _ _ _ us hl => match us, hl with | [_], _ => rfl
  have k_is_number := ok_is_number (P := P) (w := w) (mg := mg) (base := base) F_is_number_ c_is_integer
  have c_is_number := kfN F_is_number_ k_is_number (He.glo_ok X G (c.fact 1 (f := .glo "is_number") rfl)) fun _ _ _ _ _ _ us hl => match us, hl with | [_], _ => rfl
  have k_is_natural := ok_is_natural (P := P) (w := w) (mg := mg) (base := base) F_is_natural_ c_is_integer
  have c_is_natural := kfN F_is_natural_ k_is_natural (He.glo_ok X G (c.fact 2 (f := .glo "is_natural") rfl)) fun _ _ _ _ _ _ us hl => match us, hl with | [_], _ => rfl
  have k__law_history := ok__law_history (P := P) (w := w) (mg := mg) (base := base) B F__law_history_ c__law_next
  have c__law_history := kfN F__law_history_ k__law_history (He.glo_ok X G (c.fact 25 (f := .glo "_law_history") rfl)) fun _ _ _ _ _ _ us hl => match us, hl with | [_, _], _ => rfl
  have k__law_heights := ok__law_heights (P := P) (w := w) (mg := mg) (base := base) B F__law_heights_ c__law_reads
  have c__law_heights := kfN F__law_heights_ k__law_heights (He.glo_ok X G (c.fact 30 (f := .glo "_law_heights") rfl)) fun _ _ _ _ _ _ us hl => match us, hl with | [_], _ => rfl
  have k_check_version := ok_check_version (P := P) (w := w) (mg := mg) (base := base) B F_check_version_ c_is_number
  have c_check_version_3 := kfD F_check_version_ k_check_version (He.glo_ok X G (c.fact 3 (f := .glo "check_version") rfl)) (F_check_version_.binds1 3 0 (List.cons_ne_nil _ _) rfl fun _ _ _ _ _ _ _ us its h1 h2 => match us, its, h1, h2 with | [_, _, _], [_], _, _ => ⟨_, rfl, rfl⟩)
  have k_ask_version := ok_ask_version (P := P) (w := w) (mg := mg) (base := base) F_ask_version_ c_is_number c_many_of
  have c_ask_version := kfN F_ask_version_ k_ask_version (He.glo_ok X G (c.fact 13 (f := .glo "ask_version") rfl)) fun _ _ _ _ _ _ us hl => match us, hl with | [_, _, _, _], _ => rfl
  have k_is_heights := ok_is_heights (P := P) (w := w) (mg := mg) (base := base) B F_is_heights_ c_is_natural
  have c_is_heights := kfN F_is_heights_ k_is_heights (He.glo_ok X G (c.fact 19 (f := .glo "is_heights") rfl)) fun _ _ _ _ _ _ us hl => match us, hl with | [_, _], _ => rfl
  have k_path_of := ok_path_of (P := P) (w := w) (mg := mg) (base := base) B F_path_of_ c__upward c_check_version_3
  have c_path_of := kfN F_path_of_ k_path_of (He.glo_ok X G (c.fact 6 (f := .glo "path_of") rfl)) fun _ _ _ _ _ _ us hl => match us, hl with | [_, _], _ => rfl
  have k_is_elder := ok_is_elder (P := P) (w := w) (mg := mg) (base := base) F_is_elder_ c__upward c_check_version_3
  have c_is_elder := kfN F_is_elder_ k_is_elder (He.glo_ok X G (c.fact 7 (f := .glo "is_elder") rfl)) fun _ _ _ _ _ _ us hl => match us, hl with | [_, _, _], _ => rfl
  have k_bases_by := ok_bases_by (P := P) (w := w) (mg := mg) (base := base) B F_bases_by_ c_is_heights
  have c_bases_by := kfN F_bases_by_ k_bases_by (He.glo_ok X G (c.fact 20 (f := .glo "bases_by") rfl)) fun _ _ _ _ _ _ us hl => match us, hl with | [_, _], _ => rfl
  have k_is_bases := ok_is_bases (P := P) (w := w) (mg := mg) (base := base) B F_is_bases_ c_is_elder c_is_number c_many_of
  have c_is_bases := kfN F_is_bases_ k_is_bases (He.glo_ok X G (c.fact 8 (f := .glo "is_bases") rfl)) fun _ _ _ _ _ _ us hl => match us, hl with | [_, _], _ => rfl
  have k_first_crossing := ok_first_crossing (P := P) (w := w) (mg := mg) (base := base) B F_first_crossing_ c_many_of c_path_of
  have c_first_crossing := kfN F_first_crossing_ k_first_crossing (He.glo_ok X G (c.fact 9 (f := .glo "first_crossing") rfl)) fun _ _ _ _ _ _ us hl => match us, hl with | [_, _], _ => rfl
  have k_sheet_from := ok_sheet_from (P := P) (w := w) (mg := mg) (base := base) B F_sheet_from_ c_path_of
  have c_sheet_from := kfN F_sheet_from_ k_sheet_from (He.glo_ok X G (c.fact 15 (f := .glo "sheet_from") rfl)) fun _ _ _ _ _ _ us hl => match us, hl with | [_, _, _], _ => rfl
  have k_records_of := ok_records_of (P := P) (w := w) (mg := mg) (base := base) B F_records_of_ c_bases_by c_is_number
  have c_records_of := kfN F_records_of_ k_records_of (He.glo_ok X G (c.fact 22 (f := .glo "records_of") rfl)) fun _ _ _ _ _ _ us hl => match us, hl with | [_, _, _], _ => rfl
  have k_is_plan := ok_is_plan (P := P) (w := w) (mg := mg) (base := base) F_is_plan_ c_first_crossing c_is_bases
  have c_is_plan := kfN F_is_plan_ k_is_plan (He.glo_ok X G (c.fact 10 (f := .glo "is_plan") rfl)) fun _ _ _ _ _ _ us hl => match us, hl with | [_, _], _ => rfl
  have k_crossing_of := ok_crossing_of (P := P) (w := w) (mg := mg) (base := base) F_crossing_of_ c_first_crossing c_is_bases
  have c_crossing_of := kfN F_crossing_of_ k_crossing_of (He.glo_ok X G (c.fact 11 (f := .glo "crossing_of") rfl)) fun _ _ _ _ _ _ us hl => match us, hl with | [_, _], _ => rfl
  have k_ask_bases := ok_ask_bases (P := P) (w := w) (mg := mg) (base := base) F_ask_bases_ c_is_bases
  have c_ask_bases := kfN F_ask_bases_ k_ask_bases (He.glo_ok X G (c.fact 12 (f := .glo "ask_bases") rfl)) fun _ _ _ _ _ _ us hl => match us, hl with | [_, _], _ => rfl
  have k_chain_of := ok_chain_of (P := P) (w := w) (mg := mg) (base := base) B F_chain_of_ c_ask_bases c_ask_version c_chain_from
  have c_chain_of := kfN F_chain_of_ k_chain_of (He.glo_ok X G (c.fact 16 (f := .glo "chain_of") rfl)) fun _ _ _ _ _ _ us hl => match us, hl with | [_, _, _], _ => rfl
  have k_reads_by := ok_reads_by (P := P) (w := w) (mg := mg) (base := base) B F_reads_by_ c_ask_bases
  have c_reads_by := kfN F_reads_by_ k_reads_by (He.glo_ok X G (c.fact 17 (f := .glo "reads_by") rfl)) fun _ _ _ _ _ _ us hl => match us, hl with | [_, _], _ => rfl
  have k_writes_by := ok_writes_by (P := P) (w := w) (mg := mg) (base := base) B F_writes_by_ c_ask_bases c_many_of c_sheet_from
  have c_writes_by := kfN F_writes_by_ k_writes_by (He.glo_ok X G (c.fact 18 (f := .glo "writes_by") rfl)) fun _ _ _ _ _ _ us hl => match us, hl with | [_, _], _ => rfl
  have k__law_crossed_right := ok__law_crossed_right (P := P) (w := w) (mg := mg) (base := base) B F__law_crossed_right_ c__law_crossing c__law_same c_crossing_of c_is_bases c_is_plan
  have c__law_crossed_right := kfN F__law_crossed_right_ k__law_crossed_right (He.glo_ok X G (c.fact 34 (f := .glo "_law_crossed_right") rfl)) fun _ _ _ _ _ _ us hl => match us, hl with | [_, _, _], _ => rfl
  have k_heights_of := ok_heights_of (P := P) (w := w) (mg := mg) (base := base) B F_heights_of_ c_is_bases c_reads_by
  have c_heights_of := kfN F_heights_of_ k_heights_of (He.glo_ok X G (c.fact 21 (f := .glo "heights_of") rfl)) fun _ _ _ _ _ _ us hl => match us, hl with | [_, _], _ => rfl
  have k__law_counts_right := ok__law_counts_right (P := P) (w := w) (mg := mg) (base := base) F__law_counts_right_ c__law_reads c__law_same c__law_writes c_reads_by c_writes_by
  have c__law_counts_right := kfN F__law_counts_right_ k__law_counts_right (He.glo_ok X G (c.fact 36 (f := .glo "_law_counts_right") rfl)) fun _ _ _ _ _ _ us hl => match us, hl with | [_, _, _], _ => rfl
  have k__law_records_right := ok__law_records_right (P := P) (w := w) (mg := mg) (base := base) B F__law_records_right_ c__law_reads c__law_same c_chain_of c_records_of
  have c__law_records_right := kfN F__law_records_right_ k__law_records_right (He.glo_ok X G (c.fact 37 (f := .glo "_law_records_right") rfl)) fun _ _ _ _ _ _ us hl => match us, hl with | [_, _, _], _ => rfl
  have k__law_led_right := ok__law_led_right (P := P) (w := w) (mg := mg) (base := base) F__law_led_right_ c__law_all_at_most c__law_crossed_right c__law_crossing c__law_heights c__law_higher c__law_reads c__law_same c__law_writes c_bases_by c_heights_of
  have c__law_led_right := kfN F__law_led_right_ k__law_led_right (He.glo_ok X G (c.fact 35 (f := .glo "_law_led_right") rfl)) fun _ _ _ _ _ _ us hl => match us, hl with | [_, _, _], _ => rfl
  have k__law_by_heights := ok__law_by_heights (P := P) (w := w) (mg := mg) (base := base) B F__law_by_heights_ c__law_higher c__law_records_right c__law_same c_bases_by c_heights_of c_is_plan
  have c__law_by_heights := kfN F__law_by_heights_ k__law_by_heights (He.glo_ok X G (c.fact 38 (f := .glo "_law_by_heights") rfl)) fun _ _ _ _ _ _ us hl => match us, hl with | [_, _, _, _], _ => rfl
  have k__law_small := ok__law_small (P := P) (w := w) (mg := mg) (base := base) B F__law_small_ c__law_all_rows c__law_crossing c__law_elders c__law_higher c__law_led_right
  have c__law_small := kfN F__law_small_ k__law_small (He.glo_ok X G (c.fact 40 (f := .glo "_law_small") rfl)) fun _ _ _ _ _ _ us hl => match us, hl with | [_], _ => rfl
  have k_law := ok_law (P := P) (w := w) (mg := mg) (base := base) B F_law_ c__law_by_heights c__law_counts_right c__law_crossed_right c__law_elders c__law_feed c__law_history c__law_led_right c__law_next c__law_small c_bases_by c_heights_of
  exact law_imp k_law
end K58
open PySem PyProof.Rows PySem.W PySem.Calls
theorem PySem.Challenge.cw_sincemarks_k58_whole_bases_by_heights_holds : PySem.Challenge.rw_sincemarks_k58_whole_bases_by_heights.Holds := by
  w_on; o_law
  refine HandSHeadRun.head_any (r := OpenLaw.row PySem.Challenge.rw_sincemarks_k58_whole_bases_by_heights) (q := view (OpenLaw.row PySem.Challenge.rw_sincemarks_k58_whole_bases_by_heights).prog [53]) (H := K58.hk) (ob := K58.ob) (M := 6000) (loose := K58.names) (d := HandSHeadRun.topDef (OpenLaw.row PySem.Challenge.rw_sincemarks_k58_whole_bases_by_heights).prog 53) (kwd := []) K58.ob_eq
    (by kernel_rfl) (fun s => by kernel_rfl) K58.run (by kernel_rfl) (by kernel_rfl) (by kernel_rfl) (by rfl) (by first | assumption | decide +kernel) (by decide +kernel) ⟨rfl, rfl, rfl, rfl, rfl, by decide +kernel⟩ ?hw ?hc
  case hw => w_witness2
  case hc =>
    refine L2.walk_ofE (l := PySem.Challenge.rw_sincemarks_k58_whole_bases_by_heights) (n := 63) (k := K58.level) (x := "_law_script") (CX := L2.CX0) rfl (by decide) (by kernel_rfl) ⟨rfl, by decide, by decide⟩ ?F (fun _ _ _ _ z => z)
    intro w mg fa h Y G hmg0
    obtain ⟨K, KX, c⟩ := Y
    have hmg : mg ("law" : PySem.Str) = some (.ref fa) := by
      have e : (HandSHeadRun.topDef (OpenLaw.row PySem.Challenge.rw_sincemarks_k58_whole_bases_by_heights).prog 53).name = ("law" : PySem.Str) := by kernel_rfl
      rw [← e]
      exact hmg0
    obtain ⟨fd, hb, hF⟩ := K58.facts (P := (PySem.Challenge.rw_sincemarks_k58_whole_bases_by_heights).prog) (w := w) KX G hmg c
    exact ⟨K, fd, K58.spLaw K, KX, hb, fun H a ns hl _ hS => ⟨a, ns, rfl, hS, hl, fun _ => rfl⟩, hF⟩
