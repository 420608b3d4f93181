import PyProof.Rows.All
import Wide.All
import OpenK.AllK
import Wide.FinOn
import HandS.ForMost
import HandS.Defaults
import HandS.Conv
import HandS.Zip
import HandS.Rev
import HandS.Style
import HandS.IsInst
import HandS.SortKw
import HandS.SortInts
import HandS.SortOrd
import HandS.TupAny
import HandS.TupLe
import HandS.Wide
import HandS.Flow
import KE.DataMinMax
import KE.SortData
import HandS.TupSets
import KE.GoesEnum
import KE.DataEq
import HandS.Head0
import HandS.Head1
import HandS.Head2
import HandS.HeadEnd
import HandS.HeadHook1
import HandS.HeadHook2
import PySem.Challenge.RW_sincemarks_k15_whole_least_open_rows
set_option Elab.async false
set_option linter.all false
set_option maxRecDepth 100000
set_option maxHeartbeats 0
/-! The data layer: what stands in a slot, what a value looks like, steps. -/
namespace DL
open PySem PySem.Spec PyProof.Rows L2
abbrev St := L2.St

inductive Sl where
  | im (d : PyData)
  | ac (ds : List PyData)
  | nl (dss : List (Bool × List PyData))
abbrev Ev := List (Option Sl)
inductive Rs where
  | im (d : PyData)
  | ac (ds : List PyData)
  | br (i : Nat)
def isAc : Option (Option Sl) → Bool
  | some (some (.ac _)) => true
  | _ => false
theorem isAc_iff {o : Option (Option Sl)} : isAc o = true ↔ ∃ ds, o = some (some (.ac ds)) := by
  constructor
  · intro h
    match o, h with
    | some (some (.ac ds)), _ => exact ⟨ds, rfl⟩
  · rintro ⟨ds, rfl⟩
    rfl

section
variable {K : PySem.W.Frag} {E : Ef} {G G' G1 G2 H H' H1 G0 : Hp} {v : V} {vs ws : List V} {d : PyData} {ds : List PyData} {p a : Addr} {o : HO} {σ σ' : St} {e e' e1 : Ev} {m : Option Addr} {i : Nat} {r : Rs}

theorem seqT (s : Same G G') {xs : List V} (h : SqT K G a xs) : SqT K G' a xs := by
  rcases h with (h | ⟨q, h⟩) | h
  · exact .inl (.inl (s _ _ h))
  · exact .inl (.inr ⟨q, s _ _ h⟩)
  · exact .inr h
mutual
theorem dp_same (s : Same G G') : ∀ {v : V} {d : PyData}, Dp K G v d → Dp K G' v d
  | _, _, .non => .non
  | _, _, .bl b => .bl b
  | _, _, .int i => .int i
  | _, _, .str x => .str x
  | _, _, .lst h q => .lst (s.seq h) (dpAll_same s q)
  | _, _, .tup h q => .tup (seqT s h) (dpAll_same s q)
theorem dpAll_same (s : Same G G') : ∀ {vs : List V} {ds : List PyData}, DpAll K G vs ds → DpAll K G' vs ds
  | _, _, .nil => .nil
  | _, _, .cons h q => .cons (dp_same s h) (dpAll_same s q)
end
theorem dpAll_len : ∀ {vs : List V} {ds : List PyData}, DpAll K G vs ds → vs.length = ds.length
  | _, _, .nil => rfl
  | _, _, .cons _ q => congrArg (· + 1) (dpAll_len q)
theorem dpAll_get : ∀ {vs : List V} {ds : List PyData} {i : Nat} {d : PyData}, DpAll K G vs ds → ds[i]? = some d → ∃ v, vs[i]? = some v ∧ Dp K G v d
  | _, _, _, _, .nil, z => by simp at z
  | _, _, 0, _, .cons (v := v) h _, z => ⟨v, rfl, by
      have z2 := Option.some.inj z
      rw [← z2]
      exact h⟩
  | _, _, i + 1, _, .cons _ q, z => by
      obtain ⟨v, h1, h2⟩ := dpAll_get (i := i) q (by simpa using z)
      exact ⟨v, by simpa using h1, h2⟩
theorem dpAll_at : ∀ {vs : List V} {ds : List PyData} {i : Nat} {v : V}, DpAll K G vs ds → vs[i]? = some v → ∃ d, ds[i]? = some d ∧ Dp K G v d
  | _, _, _, _, .nil, z => by simp at z
  | _, _, 0, _, .cons (d := d) h _, z => ⟨d, rfl, by
      have z2 := Option.some.inj z
      rw [← z2]
      exact h⟩
  | _, _, i + 1, _, .cons _ q, z => by
      obtain ⟨v, h1, h2⟩ := dpAll_at (i := i) q (by simpa using z)
      exact ⟨v, by simpa using h1, h2⟩
theorem dpAll_app : ∀ {vs ws : List V} {ds es : List PyData}, DpAll K G vs ds → DpAll K G ws es → DpAll K G (vs ++ ws) (ds ++ es)
  | _, _, _, _, .nil, q => q
  | _, _, _, _, .cons h t, q => .cons h (dpAll_app t q)
theorem dpAll_set : ∀ {vs : List V} {ds : List PyData} (i : Nat), DpAll K G vs ds → Dp K G v d → DpAll K G (vs.set i v) (ds.set i d)
  | _, _, _, .nil, _ => .nil
  | _, _, 0, .cons _ t, q => .cons q t
  | _, _, i + 1, .cons h t, q => .cons h (dpAll_set i t q)
theorem dpAll_take : ∀ {vs : List V} {ds : List PyData} (n : Nat), DpAll K G vs ds → DpAll K G (vs.take n) (ds.take n)
  | _, _, 0, _ => .nil
  | _, _, _ + 1, .nil => .nil
  | _, _, n + 1, .cons h t => .cons h (dpAll_take n t)
theorem dpAll_drop : ∀ {vs : List V} {ds : List PyData} (n : Nat), DpAll K G vs ds → DpAll K G (vs.drop n) (ds.drop n)
  | _, _, 0, t => t
  | _, _, _ + 1, .nil => .nil
  | _, _, n + 1, .cons _ t => dpAll_drop n t
theorem dpAll_rev : ∀ {vs : List V} {ds : List PyData}, DpAll K G vs ds → DpAll K G vs.reverse ds.reverse
  | _, _, .nil => .nil
  | _, _, .cons h t => by
    rw [List.reverse_cons, List.reverse_cons]
    exact dpAll_app (dpAll_rev t) (.cons h .nil)
theorem dpAll_rep (h : DpAll K G vs ds) : ∀ k : Nat, DpAll K G (List.replicate k vs).flatten (List.replicate k ds).flatten
  | 0 => .nil
  | k + 1 => by
    rw [List.replicate_succ, List.replicate_succ, List.flatten_cons, List.flatten_cons]
    exact dpAll_app h (dpAll_rep h k)
theorem dpAll_ints : ∀ (ns : List Int), DpAll K G (ns.map V.int) (ns.map PyData.int)
  | [] => .nil
  | n :: ns => .cons (.int n) (dpAll_ints ns)

def Own (σ : St) (e : Ev) (a : Addr) : Prop := ∃ (i : Nat) (ds : List PyData), e[i]? = some (some (.ac ds)) ∧ σ[i]? = some (some (.ref a))

/-- what stood at the entry (b), and what is kept beside it since (h) -/
structure Ef where
  h : Hp
  b : Hp
  sub : ∀ a o, b a = some o → h a = some o
instance : CoeFun Ef (fun _ => Hp) := ⟨Ef.h⟩
def Ef.of (H : Hp) : Ef := ⟨H, H, fun _ _ z => z⟩
/-- an inner list: left as it is (true), or one's own -/
def NiF (K : PySem.W.Frag) (m : Option Addr) (E : Ef) (G0 G : Hp) (b : Bool) (ds : List PyData) (q : Addr) : Prop := match b with
  | true => Dp K G (.ref q) (.list ds)
  | false => E.b q = none ∧ G0 q = none ∧ m ≠ some q ∧ ∃ ws, E.h q = some (.lst ws) ∧ DpAll K G ws ds
/-- a list of one's own lists -/
def NlF (K : PySem.W.Frag) (m : Option Addr) (E : Ef) (G0 G : Hp) (o : Option (Option V)) (dss : List (Bool × List PyData)) : Prop :=
  ∃ (p : Addr) (qs : List Addr), o = some (some (.ref p)) ∧ E.h p = some (.lst (qs.map V.ref)) ∧ E.b p = none ∧ G0 p = none ∧ m ≠ some p ∧ qs.length = dss.length ∧ (p :: qs).Nodup ∧
    ∀ (j : Nat) (b : Bool) (ds : List PyData) (q : Addr), dss[j]? = some (b, ds) → qs[j]? = some q → NiF K m E G0 G b ds q
theorem NiF.mono {K : PySem.W.Frag} {m : Option Addr} {E : Ef} {G0 G G' : Hp} (s : Same G G') : ∀ {b : Bool} {ds : List PyData} {q : Addr}, NiF K m E G0 G b ds q → NiF K m E G0 G' b ds q
  | true, _, _, h => dp_same s h
  | false, _, _, ⟨h1, h2, h3, ws, h4, h5⟩ => ⟨h1, h2, h3, ws, h4, dpAll_same s h5⟩
theorem NlF.mono {K : PySem.W.Frag} {m : Option Addr} {E : Ef} {G0 G G' : Hp} {o : Option (Option V)} {dss : List (Bool × List PyData)} (s : Same G G') (h : NlF K m E G0 G o dss) : NlF K m E G0 G' o dss := by
  obtain ⟨p, qs, h1, h2, h3, h4, h5, h6, h7, h8⟩ := h
  exact ⟨p, qs, h1, h2, h3, h4, h5, h6, h7, fun j b ds q a1 a2 => (h8 j b ds q a1 a2).mono s⟩

/-- the slots e are what σ holds: G what stays, H what stands, E what stood at the entry but the object at m -/
structure Rl (K : PySem.W.Frag) (m : Option Addr) (E : Ef) (G0 G : Hp) (e : Ev) (σ : St) (H : Hp) : Prop where
  gg : Same G0 G
  gh : Same G H
  eh : ∀ a o, E a = some o → m ≠ some a → H a = some o
  mh : ∀ a, m = some a → E a ≠ none ∧ H a ≠ none
  nw : ∀ a, G0 a = none → E a ≠ none → G a = none
  len : e.length = σ.length
  im : ∀ (i : Nat) (d : PyData), e[i]? = some (some (.im d)) → ∃ (v : V), σ[i]? = some (some v) ∧ Dp K G v d
  ac : ∀ (i : Nat) (ds : List PyData), e[i]? = some (some (.ac ds)) → ∃ (p : Addr) (ws : List V), σ[i]? = some (some (.ref p)) ∧ G p = none ∧ H p = some (.lst ws) ∧ DpAll K G ws ds ∧ (E p = none ∨ (m = some p ∧ i = 0))
  inj : ∀ (i j : Nat) (di dj : List PyData) (p : Addr), e[i]? = some (some (.ac di)) → e[j]? = some (some (.ac dj)) → σ[i]? = some (some (.ref p)) → σ[j]? = some (some (.ref p)) → i = j
  nl : ∀ (i : Nat) (dss : List (Bool × List PyData)), e[i]? = some (some (.nl dss)) → NlF K m E G0 G σ[i]? dss

/-- from one moment of an expression to a later one -/
structure Stp (σ : St) (G H : Hp) (e : Ev) (G' H' : Hp) (e' : Ev) : Prop where
  gg : Same G G'
  nw : ∀ a, G a = none → H a ≠ none → G' a = none
  hh : ∀ a o, H a = some o → ¬ Own σ e a → H' a = some o
  kd : ∀ i : Nat, isAc e'[i]? = isAc e[i]?
  th : ∀ a, H a ≠ none → H' a ≠ none

theorem own_kd (k : ∀ i : Nat, isAc e'[i]? = isAc e[i]?) : Own σ e' a ↔ Own σ e a := by
  constructor
  · rintro ⟨i, ds, h1, h2⟩
    have z : isAc e[i]? = true := by rw [← k i, h1]; rfl
    obtain ⟨ds', q⟩ := isAc_iff.mp z
    exact ⟨i, ds', q, h2⟩
  · rintro ⟨i, ds, h1, h2⟩
    have z : isAc e'[i]? = true := by rw [k i, h1]; rfl
    obtain ⟨ds', q⟩ := isAc_iff.mp z
    exact ⟨i, ds', q, h2⟩
theorem Stp.refl : Stp σ G H e G H e := ⟨Same.refl _, fun _ h _ => h, fun _ _ h _ => h, fun _ => rfl, fun _ h => h⟩
theorem Stp.trans (a : Stp σ G H e G1 H1 e1) (b : Stp σ G1 H1 e1 G' H' e') : Stp σ G H e G' H' e' where
  gg := a.gg.trans b.gg
  nw := fun x h1 h2 => b.nw x (a.nw x h1 h2) (a.th x h2)
  hh := fun x o h1 h2 => b.hh x o (a.hh x o h1 h2) fun z => h2 ((own_kd a.kd).mp z)
  kd := fun i => (b.kd i).trans (a.kd i)
  th := fun x h => b.th x (a.th x h)

/-- a value as a result -/
def Vr (K : PySem.W.Frag) (E : Ef) (G H : Hp) (σ : St) (e : Ev) (v : V) : Rs → Prop
  | .im d => Dp K G v d
  | .ac ds => ∃ p ws, v = .ref p ∧ E p = none ∧ G p = none ∧ H p = some (.lst ws) ∧ DpAll K G ws ds ∧ ¬ Own σ e p
  | .br i => ∃ ds, e[i]? = some (some (.ac ds)) ∧ σ[i]? = some (some v)
/-- a new list was not there ahead -/
def Nw (H : Hp) (v : V) : Rs → Prop
  | .ac _ => ∀ p, v = .ref p → H p = none
  | _ => True
theorem Vr.stp (S : Stp σ G H e G' H' e') : ∀ {r : Rs}, Vr K E G H σ e v r → Vr K E G' H' σ e' v r
  | .im d, h => dp_same S.gg h
  | .ac ds, h => by
    obtain ⟨p, ws, rfl, h1, h2, h3, h4, h5⟩ := h
    exact ⟨p, ws, rfl, h1, S.nw p h2 (by rw [h3]; simp), S.hh p _ h3 h5, dpAll_same S.gg h4, fun z => h5 ((own_kd S.kd).mp z)⟩
  | .br i, h => by
    obtain ⟨ds, h1, h2⟩ := h
    have z : isAc e'[i]? = true := by rw [S.kd i, h1]; rfl
    obtain ⟨ds', q⟩ := isAc_iff.mp z
    exact ⟨ds', q, h2⟩
/-- the frozen form -/
def frzR : Rs → Rs
  | .ac ds => .im (.list ds)
  | r => r
/-- a new list is left as it is for good -/
theorem Rl.freeze (R : Rl K m E G0 G' e' σ H') (S : Stp σ G H e G' H' e') (h : Vr K E G' H' σ e' v r) (n : Nw H v r) :
    ∃ G2, Rl K m E G0 G2 e' σ H' ∧ Stp σ G H e G2 H' e' ∧ Same G' G2 ∧ Vr K E G2 H' σ e' v (frzR r) := by
  cases r with
  | im d => exact ⟨G', R, S, Same.refl _, h⟩
  | br i => exact ⟨G', R, S, Same.refl _, h⟩
  | ac ds =>
    obtain ⟨p, ws, rfl, h1, h2, h3, h4, h5⟩ := h
    have s1 : Same G' (upd G' p (.lst ws)) := fun b o q => by
      rw [upd_ne (ne_of_none q h2)]
      exact q
    have hp : H p = none := n p rfl
    refine ⟨upd G' p (.lst ws), ⟨R.gg.trans s1, fun b o q => ?_, R.eh, R.mh, fun b b1 b2 => ?_, R.len, fun i d q => ?_, fun i ds' q => ?_, R.inj, fun i dss q => (R.nl i dss q).mono s1⟩, ⟨S.gg.trans s1, fun b b1 b2 => ?_, S.hh, S.kd, S.th⟩, s1, ?_⟩
    · by_cases z : b = p
      · subst z
        rw [upd_same] at q
        rw [h3]
        exact q
      · rw [upd_ne z] at q
        exact R.gh b o q
    · have z : b ≠ p := fun z => b2 (by rw [z]; exact h1)
      rw [upd_ne z]
      exact R.nw b b1 b2
    · obtain ⟨u, q1, q2⟩ := R.im i d q
      exact ⟨u, q1, dp_same s1 q2⟩
    · obtain ⟨p', ws', q1, q2, q3, q4, q5⟩ := R.ac i ds' q
      have z : p' ≠ p := fun z => h5 ⟨i, ds', q, by rw [← z]; exact q1⟩
      exact ⟨p', ws', q1, by rw [upd_ne z]; exact q2, q3, dpAll_same s1 q4, q5⟩
    · have z : b ≠ p := fun z => b2 (by rw [z]; exact hp)
      rw [upd_ne z]
      exact S.nw b b1 b2
    · exact .lst (.inl (.inl upd_same)) (dpAll_same s1 h4)

/-- a list's own items may be in H, not in G -/
def Lv (K : PySem.W.Frag) (G H : Hp) (v : V) (d : PyData) : Prop := Dp K G v d ∨ ∃ p ws ds, v = .ref p ∧ d = .list ds ∧ H p = some (.lst ws) ∧ DpAll K G ws ds
/-- what a frozen result holds -/
def lookR (e : Ev) : Rs → Option PyData
  | .im d => some d
  | .ac _ => none
  | .br i => match e[i]? with
    | some (some (.ac ds)) => some (.list ds)
    | _ => none
theorem Rl.look (R : Rl K m E G0 G e σ H) (h : Vr K E G H σ e v r) (q : lookR e r = some d) : Lv K G H v d := by
  cases r with
  | im d' =>
    cases q
    exact .inl h
  | ac ds => cases q
  | br i =>
    obtain ⟨ds, h1, h2⟩ := h
    simp only [lookR, h1, Option.some.injEq] at q
    subst q
    obtain ⟨p, ws, q1, q2, q3, q4, q5⟩ := R.ac i ds h1
    rw [h2] at q1
    cases q1
    exact .inr ⟨p, ws, ds, rfl, rfl, q3, q4⟩
theorem Lv.dp (s : Same G H) (h : Lv K G H v d) : Dp K H v d := by
  rcases h with h | ⟨p, ws, ds, rfl, rfl, h1, h2⟩
  · exact dp_same s h
  · exact .lst (.inl (.inl h1)) (dpAll_same s h2)
/-- as a list -/
theorem Lv.list (s : Same G H) (h : Lv K G H v (.list ds)) : ∃ p ws, v = .ref p ∧ SqL K H p ws ∧ DpAll K G ws ds := by
  rcases h with h | ⟨p, ws, ds', rfl, e, h1, h2⟩
  · cases h with
    | lst h q => exact ⟨_, _, rfl, s.seq h, q⟩
  · cases e
    exact ⟨p, ws, rfl, .inl (.inl h1), h2⟩
theorem Lv.tup (s : Same G H) (h : Lv K G H v (.tuple ds)) : ∃ p ws, v = .ref p ∧ SqT K H p ws ∧ DpAll K G ws ds := by
  rcases h with h | ⟨p, ws, ds', rfl, e, h1, h2⟩
  · cases h with
    | tup h q => exact ⟨_, _, rfl, seqT s h, q⟩
  · cases e
theorem Lv.int {i : Int} (h : Lv K G H v (.int i)) : v = .int i := by
  rcases h with h | ⟨p, ws, ds, rfl, e, _⟩
  · cases h
    rfl
  · cases e
theorem Lv.bool {b : Bool} (h : Lv K G H v (.bool b)) : v = .bl b := by
  rcases h with h | ⟨p, ws, ds, rfl, e, _⟩
  · cases h
    rfl
  · cases e
theorem Lv.none (h : Lv K G H v .none) : v = .non := by
  rcases h with h | ⟨p, ws, ds, rfl, e, _⟩
  · cases h
    rfl
  · cases e
theorem Lv.str {x : Str} (h : Lv K G H v (.str x)) : v = .str x := by
  rcases h with h | ⟨p, ws, ds, rfl, e, _⟩
  · cases h
    rfl
  · cases e

/-! ### new objects -/
theorem Rl.fresh (R : Rl K m E G0 G e σ H) (h : H p = none) : G p = none ∧ E p = none ∧ ¬ Own σ e p ∧ m ≠ some p := by
  refine ⟨R.gh.free h, ?_, ?_, ?_⟩
  · cases q : E p with
    | none => rfl
    | some o =>
      by_cases z : m = some p
      · exact absurd h (R.mh p z).2
      · rw [R.eh p o q z] at h
        cases h
  · rintro ⟨i, ds, h1, h2⟩
    obtain ⟨p', ws, q1, _, q3, _⟩ := R.ac i ds h1
    rw [h2] at q1
    cases q1
    rw [h] at q3
    cases q3
  · intro z
    exact absurd h (R.mh p z).2
theorem same_new (h : H p = none) : Same H (upd H p o) := fun b u q => by
  rw [upd_ne (ne_of_none q h)]
  exact q
/-- a new tuple -/
theorem Rl.newT (R : Rl K m E G0 G e σ H) (h : H p = none) (q : DpAll K G ws ds) :
    Rl K m E G0 (upd G p (.tup ws)) e σ (upd H p (.tup ws)) ∧ Stp σ G H e (upd G p (.tup ws)) (upd H p (.tup ws)) e ∧ Dp K (upd G p (.tup ws)) (.ref p) (.tuple ds) := by
  obtain ⟨hG, hE, hO, hm⟩ := R.fresh h
  have s1 : Same G (upd G p (.tup ws)) := same_new hG
  have nb : ∀ {b : Addr}, H b ≠ none → b ≠ p := fun {b} z y => z (by rw [y]; exact h)
  refine ⟨⟨R.gg.trans s1, fun b u z => ?_, fun b u b1 b2 => ?_, fun b b1 => ⟨(R.mh b b1).1, ?_⟩, fun b b1 b2 => ?_, R.len, fun i d z => ?_, fun i ds' z => ?_, R.inj, fun i dss z => (R.nl i dss z).mono s1⟩, ⟨s1, fun b b1 b2 => ?_, fun b u b1 _ => same_new h b u b1, fun _ => rfl, fun b b1 => ?_⟩, .tup (.inl (.inl upd_same)) (dpAll_same s1 q)⟩
  · by_cases y : b = p
    · subst y
      rw [upd_same] at z ⊢
      exact z
    · rw [upd_ne y] at z ⊢
      exact R.gh b u z
  · exact same_new h b u (R.eh b u b1 b2)
  · rw [upd_ne (nb (R.mh b b1).2)]
    exact (R.mh b b1).2
  · have y : b ≠ p := fun y => b2 (by rw [y]; exact hE)
    rw [upd_ne y]
    exact R.nw b b1 b2
  · obtain ⟨u, z1, z2⟩ := R.im i d z
    exact ⟨u, z1, dp_same s1 z2⟩
  · obtain ⟨p', ws', z1, z2, z3, z4, z5⟩ := R.ac i ds' z
    have y : p' ≠ p := nb (by rw [z3]; simp)
    exact ⟨p', ws', z1, by rw [upd_ne y]; exact z2, by rw [upd_ne y]; exact z3, dpAll_same s1 z4, z5⟩
  · rw [upd_ne (nb b2)]
    exact b1
  · rw [upd_ne (nb b1)]
    exact b1
/-- a new list -/
theorem Rl.newL (R : Rl K m E G0 G e σ H) (h : H p = none) (q : DpAll K G ws ds) :
    Rl K m E G0 G e σ (upd H p (.lst ws)) ∧ Stp σ G H e G (upd H p (.lst ws)) e ∧ Vr K E G (upd H p (.lst ws)) σ e (.ref p) (.ac ds) ∧ Nw H (.ref p) (.ac ds) := by
  obtain ⟨hG, hE, hO, hm⟩ := R.fresh h
  have nb : ∀ {b : Addr}, H b ≠ none → b ≠ p := fun {b} z y => z (by rw [y]; exact h)
  refine ⟨⟨R.gg, R.gh.trans (same_new h), fun b u b1 b2 => same_new h b u (R.eh b u b1 b2), fun b b1 => ⟨(R.mh b b1).1, ?_⟩, R.nw, R.len, R.im, fun i ds' z => ?_, R.inj, R.nl⟩, ⟨Same.refl _, fun _ b1 _ => b1, fun b u b1 _ => same_new h b u b1, fun _ => rfl, fun b b1 => ?_⟩, ⟨p, ws, rfl, hE, hG, upd_same, q, hO⟩, fun p' z => ?_⟩
  · rw [upd_ne (nb (R.mh b b1).2)]
    exact (R.mh b b1).2
  · obtain ⟨p', ws', z1, z2, z3, z4, z5⟩ := R.ac i ds' z
    have y : p' ≠ p := nb (by rw [z3]; simp)
    exact ⟨p', ws', z1, z2, by rw [upd_ne y]; exact z3, z4, z5⟩
  · rw [upd_ne (nb b1)]
    exact b1
  · cases z
    exact h
end
end DL
namespace DL
open PySem PySem.Spec PyProof.Rows L2

abbrev Fe := Ev → Option (Rs × Ev)
abbrev Ft := Ev → Option (Bool × Ev)
abbrev Fa := Ev → Option (List Rs × Ev)
inductive Fl where
  | nx (e : Ev)
  | bk (e : Ev)
  | ct (e : Ev)
  | rt (r : Rs) (e : Ev)
abbrev Fs := Ev → Option Fl

/-- what must follow a result -/
def Po (K : PySem.W.Frag) (m : Option Addr) (E : Ef) (G0 : Hp) (σ : St) (G H : Hp) (e : Ev) (r : Rs) (e' : Ev) (Q : VK) : Prop :=
  ∀ v G' H', Rl K m E G0 G' e' σ H' → Stp σ G H e G' H' e' → Vr K E G' H' σ e' v r → Nw H v r → Q v H'
structure ED (X : Cx) (x : Expr) (f : Fe) : Prop where
  ex : ∃ t : TE, PE X x t ∧ ∀ (m : Option Addr) (E : Ef) (G0 G : Hp) (e : Ev) (σ : St) (H : Hp) (r : Rs) (e' : Ev) (Q : VK),
    Rl X.K m E G0 G e σ H → f e = some (r, e') → Po X.K m E G0 σ G H e r e' Q → t σ H Q
structure TD (X : Cx) (x : Expr) (f : Ft) : Prop where
  ex : ∃ t : TT, PT X x t ∧ ∀ (m : Option Addr) (E : Ef) (G0 G : Hp) (e : Ev) (σ : St) (H : Hp) (b : Bool) (e' : Ev) (Q : Bool → Hp → Prop),
    Rl X.K m E G0 G e σ H → f e = some (b, e') → (∀ G' H', Rl X.K m E G0 G' e' σ H' → Stp σ G H e G' H' e' → Q b H') → t σ H Q
structure WD (X : Cx) (x : Expr) (f : Ft) : Prop where
  ex : ∃ t : TT, PW X x t ∧ ∀ (m : Option Addr) (E : Ef) (G0 G : Hp) (e : Ev) (σ : St) (H : Hp) (b : Bool) (e' : Ev) (Q : Bool → Hp → Prop),
    Rl X.K m E G0 G e σ H → f e = some (b, e') → (∀ G' H', Rl X.K m E G0 G' e' σ H' → Stp σ G H e G' H' e' → Q b H') → t σ H Q
def VrAll (K : PySem.W.Frag) (E : Ef) (G H : Hp) (σ : St) (e : Ev) : List V → List Rs → Prop
  | [], [] => True
  | v :: vs, r :: rs => Vr K E G H σ e v r ∧ VrAll K E G H σ e vs rs
  | _, _ => False
structure AD (X : Cx) (xs : List Expr) (f : Fa) : Prop where
  ex : ∃ t : TA, PA X xs t ∧ ∀ (m : Option Addr) (E : Ef) (G0 G : Hp) (e : Ev) (σ : St) (H : Hp) (rs : List Rs) (e' : Ev) (Q : List V → Hp → Prop),
    Rl X.K m E G0 G e σ H → f e = some (rs, e') → (∀ vs G' H', Rl X.K m E G0 G' e' σ H' → Stp σ G H e G' H' e' → VrAll X.K E G' H' σ e' vs rs → Q vs H') → t σ H Q
def lookAll (e : Ev) : List Rs → Option (List PyData)
  | [] => some []
  | r :: rs => match lookR e r with
    | some d => (match lookAll e rs with
      | some ds => some (d :: ds)
      | none => none)
    | none => none
def LvAll (K : PySem.W.Frag) (G H : Hp) : List V → List PyData → Prop
  | [], [] => True
  | v :: vs, d :: ds => Lv K G H v d ∧ LvAll K G H vs ds
  | _, _ => False

section
variable {K : PySem.W.Frag} {E : Ef} {G G' H H' G0 : Hp} {v : V} {d : PyData} {σ : St} {e e' e1 : Ev} {m : Option Addr} {r : Rs} {Q : VK}
theorem VrAll.stp (S : Stp σ G H e G' H' e') : ∀ {vs : List V} {rs : List Rs}, VrAll K E G H σ e vs rs → VrAll K E G' H' σ e' vs rs
  | [], [], _ => True.intro
  | _ :: _, _ :: _, h => ⟨h.1.stp S, VrAll.stp S h.2⟩
  | [], _ :: _, h => h.elim
  | _ :: _, [], h => h.elim
theorem Rl.lookAll (R : Rl K m E G0 G e σ H) : ∀ {vs : List V} {rs : List Rs} {ds : List PyData}, VrAll K E G H σ e vs rs → DL.lookAll e rs = some ds → LvAll K G H vs ds
  | [], [], ds, _, q => by
    cases q
    exact True.intro
  | v :: vs, r :: rs, ds, h, q => by
    simp only [DL.lookAll] at q
    cases h1 : lookR e r with
    | none =>
      rw [h1] at q
      cases q
    | some d =>
      rw [h1] at q
      cases h2 : DL.lookAll e rs with
      | none =>
        simp only [h2] at q
        cases q
      | some ds2 =>
        simp only [h2, Option.some.injEq] at q
        subst q
        exact ⟨R.look h.1 h1, R.lookAll h.2 h2⟩
  | [], _ :: _, _, h, _ => h.elim
  | _ :: _, [], _, h, _ => h.elim
theorem LvAll.len : ∀ {vs : List V} {ds : List PyData}, LvAll K G H vs ds → vs.length = ds.length
  | [], [], _ => rfl
  | _ :: _, _ :: _, h => congrArg (· + 1) (LvAll.len h.2)
  | [], _ :: _, h => h.elim
  | _ :: _, [], h => h.elim
theorem LvAll.dp (s : Same G H) : ∀ {vs : List V} {ds : List PyData}, LvAll K G H vs ds → DpAll K H vs ds
  | [], [], _ => .nil
  | _ :: _, _ :: _, h => .cons (h.1.dp s) (LvAll.dp s h.2)
  | [], _ :: _, h => h.elim
  | _ :: _, [], h => h.elim
/-- a result at the very moment -/
theorem Po.now (P : Po K m E G0 σ G H e r e Q) (R : Rl K m E G0 G e σ H) (h : Vr K E G H σ e v r) (n : Nw H v r) : Q v H := P v G H R Stp.refl h n
theorem Po.of (P : Po K m E G0 σ G H e r e' Q) (S : Stp σ G H e G' H' e1) : (∀ v, Nw H' v r → Nw H v r) → Po K m E G0 σ G' H' e1 r e' Q :=
  fun n v G2 H2 R2 S2 h2 n2 => P v G2 H2 R2 (S.trans S2) h2 (n v n2)
theorem nw_back (S : Stp σ G H e G' H' e1) : ∀ {r : Rs} (v : V), Nw H' v r → Nw H v r
  | .im _, _, _ => True.intro
  | .br _, _, _ => True.intro
  | .ac _, v, n => fun p z => by
    cases q : H p with
    | none => rfl
    | some o => exact absurd (n p z) (S.th p (by rw [q]; simp))
theorem Po.aft (P : Po K m E G0 σ G H e r e' Q) (S : Stp σ G H e G' H' e1) : Po K m E G0 σ G' H' e1 r e' Q := P.of S fun v n => nw_back S v n
end

/-! ### names, constants -/
def x_var (i : Nat) : Fe := fun e => match e[i]? with
  | some (some (.im d)) => some (.im d, e)
  | some (some (.ac _)) => some (.br i, e)
  | _ => none
def x_c (d : PyData) : Fe := fun e => some (.im d, e)
section
variable {X : Cx} {pos : Pos}
theorem ed_var (i : Nat) {x : Str} (hN : X.N[i]? = some x := by rfl) (hv : Vis X.env.scope x := by first | exact Or.inl rfl | exact Or.inr (Or.inl rfl) | exact Or.inr (Or.inr rfl)) (hd : (x == ("__debug__" : Str)) = false := by decide)
    (hcd : (x == ("__classdict__" : Str)) = false := by decide) : ED X (.Name x pos) (x_var i) := by
  refine ⟨_, pe_var hN hv hd hcd, fun m E G0 G e σ H r e' Q R q P => ?_⟩
  unfold x_var at q
  split at q
  · rename_i d h
    cases q
    obtain ⟨v, h1, h2⟩ := R.im i d h
    exact ⟨v, h1, P.now R h2 True.intro⟩
  · rename_i ds h
    cases q
    obtain ⟨p, ws, h1, _⟩ := R.ac i ds h
    exact ⟨.ref p, h1, P.now R ⟨ds, h, h1⟩ True.intro⟩
  · cases q
theorem ed_int {i j} : ED X (.Constant (.int i) j pos) (x_c (.int i)) := ⟨_, pe_int, fun m E G0 G e σ H r e' Q R q P => by
  cases q
  exact P.now R (.int i) True.intro⟩
theorem ed_bl {b j} : ED X (.Constant (.bool b) j pos) (x_c (.bool b)) := ⟨_, pe_bl, fun m E G0 G e σ H r e' Q R q P => by
  cases q
  exact P.now R (.bl b) True.intro⟩
theorem ed_non {j} : ED X (.Constant .none j pos) (x_c .none) := ⟨_, pe_non, fun m E G0 G e σ H r e' Q R q P => by
  cases q
  exact P.now R .non True.intro⟩
theorem ed_str {x j} : ED X (.Constant (.str x) j pos) (x_c (.str x)) := ⟨_, pe_str, fun m E G0 G e σ H r e' Q R q P => by
  cases q
  exact P.now R (.str x) True.intro⟩
/-- an int of the module -/
theorem ed_gint {x : Str} {i : Int} (hg : Gl X x) (hm : ∃ t, X.mg x = some (.int i t)) (hd : (x == ("__debug__" : Str)) = false := by decide) : ED X (.Name x pos) (x_c (.int i)) := by
  obtain ⟨t, hm⟩ := hm
  refine ⟨_, pe_glob (v := .int i) hg hm ⟨t, rfl⟩ hd, fun m E G0 G e σ H r e' Q R q P => ?_⟩
  cases q
  exact P.now R (.int i) True.intro
end

/-! ### operators -/
/-- both sides, left to right -/
def two (fa fb : Fe) : Ev → Option (Rs × Rs × Ev) := fun e => match fa e with
  | some (ra, e1) => (match fb e1 with
    | some (rb, e2) => some (frzR ra, frzR rb, e2)
    | none => none)
  | none => none
def look2 (p : Rs × Rs × Ev) : Option (PyData × PyData × Ev) := match lookR p.2.2 p.1, lookR p.2.2 p.2.1 with
  | some a, some b => some (a, b, p.2.2)
  | _, _ => none
def x_bin (φ : PyData → PyData → Option Rs) (fa fb : Fe) : Fe := fun e => match two fa fb e with
  | some p => (match look2 p with
    | some (a, b, e2) => (match φ a b with
      | some r => some (r, e2)
      | none => none)
    | none => none)
  | none => none
section
variable {X : Cx} {a b : Expr} {fa fb : Fe} {pos : Pos}
theorem two_ok (ha : ED X a fa) (hb : ED X b fb) : ∃ ta tb, PE X a ta ∧ PE X b tb ∧ ∀ (m : Option Addr) (E : Ef) (G0 G : Hp) (e : Ev) (σ : St) (H : Hp) (ra rb : Rs) (e' : Ev) (R : V → V → Hp → Prop),
    Rl X.K m E G0 G e σ H → two fa fb e = some (ra, rb, e') → (∀ u v G' H', Rl X.K m E G0 G' e' σ H' → Stp σ G H e G' H' e' → Vr X.K E G' H' σ e' u ra → Vr X.K E G' H' σ e' v rb → R u v H') →
    ta σ H fun x H1 => tb σ H1 fun y H2 => R x y H2 := by
  obtain ⟨ta, pa, ka⟩ := ha
  obtain ⟨tb, pb, kb⟩ := hb
  refine ⟨ta, tb, pa, pb, fun m E G0 G e σ H ra rb e' R Rl0 q k => ?_⟩
  unfold two at q
  cases h1 : fa e with
  | none => simp only [h1] at q; cases q
  | some p1 =>
    obtain ⟨r1, e1⟩ := p1
    simp only [h1] at q
    cases h2 : fb e1 with
    | none => simp only [h2] at q; cases q
    | some p2 =>
      obtain ⟨r2, e2⟩ := p2
      simp only [h2, Option.some.injEq, Prod.mk.injEq] at q
      obtain ⟨rfl, rfl, rfl⟩ := q
      refine ka m E G0 G e σ H r1 e1 _ Rl0 h1 fun u G1 H1 R1 S1 V1 N1 => ?_
      obtain ⟨G1', R1', S1', s1, V1'⟩ := R1.freeze S1 V1 N1
      refine kb m E G0 G1' e1 σ H1 r2 e2 _ R1' h2 fun v G2 H2 R2 S2 V2 N2 => ?_
      obtain ⟨G2', R2', S2', s2, V2'⟩ := R2.freeze S2 V2 N2
      exact k u v G2' H2 R2' (S1'.trans S2') (V1'.stp S2') V2'
end
/-- a two-place rule by values, over data -/
def VB (K : PySem.W.Frag) (r : R2) (φ : PyData → PyData → Option Rs) : Prop :=
  ∀ (m : Option Addr) (E : Ef) (G0 G : Hp) (e : Ev) (σ : St) (H : Hp) (x y : V) (dx dy : PyData) (rr : Rs) (Q : VK), Rl K m E G0 G e σ H → Lv K G H x dx → Lv K G H y dy → φ dx dy = some rr → Po K m E G0 σ G H e rr e Q → r x y H Q
def orF {α β γ : Type} (φ ψ : α → β → Option γ) : α → β → Option γ := fun a b => match φ a b with
  | some r => some r
  | none => ψ a b
theorem VB.or {K : PySem.W.Frag} {r r' : R2} {φ ψ : PyData → PyData → Option Rs} (h : VB K r φ) (h' : VB K r' ψ) : VB K (fun x y H Q => r x y H Q ∨ r' x y H Q) (orF φ ψ) := by
  intro m E G0 G e σ H x y dx dy rr Q R lx ly q P
  unfold orF at q
  cases h1 : φ dx dy with
  | some r1 =>
    simp only [h1, Option.some.injEq] at q
    subst q
    exact .inl (h m E G0 G e σ H x y dx dy _ Q R lx ly h1 P)
  | none =>
    simp only [h1] at q
    exact .inr (h' m E G0 G e σ H x y dx dy _ Q R lx ly q P)
/-- its result is nothing new -/
theorem VB.pure {K : PySem.W.Frag} {r : R2} {φ : PyData → PyData → Option PyData}
    (h : ∀ (G H : Hp) (x y : V) (dx dy d : PyData) (Q : VK), Same G H → Lv K G H x dx → Lv K G H y dy → φ dx dy = some d → (∀ v, Dp K G v d → Q v H) → r x y H Q) : VB K r (fun a b => (φ a b).map Rs.im) := by
  intro m E G0 G e σ H x y dx dy rr Q R lx ly q P
  cases h1 : φ dx dy with
  | none => simp only [h1, Option.map_none] at q; cases q
  | some d =>
    simp only [h1, Option.map_some, Option.some.injEq] at q
    subst q
    exact h G H x y dx dy d Q R.gh lx ly h1 fun v z => P.now R z True.intro
section
variable {X : Cx} {a b : Expr} {fa fb : Fe} {pos : Pos} {op : Operator} {cop : CmpOp} {r : R2} {φ : PyData → PyData → Option Rs}
theorem bin_ok {ta tb : TE} (hv : VB X.K r φ) (k2 : ∀ (m : Option Addr) (E : Ef) (G0 G : Hp) (e : Ev) (σ : St) (H : Hp) (ra rb : Rs) (e' : Ev) (R : V → V → Hp → Prop),
    Rl X.K m E G0 G e σ H → two fa fb e = some (ra, rb, e') → (∀ u v G' H', Rl X.K m E G0 G' e' σ H' → Stp σ G H e G' H' e' → Vr X.K E G' H' σ e' u ra → Vr X.K E G' H' σ e' v rb → R u v H') → ta σ H fun x H1 => tb σ H1 fun y H2 => R x y H2)
    (m : Option Addr) (E : Ef) (G0 G : Hp) (e : Ev) (σ : St) (H : Hp) (rr : Rs) (e' : Ev) (Q : VK) (R : Rl X.K m E G0 G e σ H) (q : x_bin φ fa fb e = some (rr, e')) (P : Po X.K m E G0 σ G H e rr e' Q) : tOp r ta tb σ H Q := by
  unfold x_bin at q
  cases h1 : two fa fb e with
  | none => simp only [h1] at q; cases q
  | some p =>
    obtain ⟨ra, rb, e2⟩ := p
    simp only [h1] at q
    cases h2 : look2 (ra, rb, e2) with
    | none => simp only [h2] at q; cases q
    | some z =>
      obtain ⟨da, db, e3⟩ := z
      simp only [h2] at q
      cases h3 : φ da db with
      | none => simp only [h3] at q; cases q
      | some r3 =>
        simp only [h3, Option.some.injEq, Prod.mk.injEq] at q
        obtain ⟨rfl, rfl⟩ := q
        unfold look2 at h2
        dsimp only at h2
        cases h4 : lookR e2 ra with
        | none => simp only [h4] at h2; cases h2
        | some d1 =>
          cases h5 : lookR e2 rb with
          | none => simp only [h4, h5] at h2; cases h2
          | some d2 =>
            simp only [h4, h5, Option.some.injEq, Prod.mk.injEq] at h2
            obtain ⟨rfl, rfl, rfl⟩ := h2
            exact k2 m E G0 G e σ H ra rb e2 _ R h1 fun u v G' H' R' S' V1 V2 => hv m E G0 G' e2 σ H' u v _ _ _ Q R' (R'.look V1 h4) (R'.look V2 h5) h3 (P.aft S')
theorem ed_op (hv : VB X.K r φ) (ho : OpR X (binaryOp op) r) (ha : ED X a fa) (hb : ED X b fb) : ED X (.BinOp a op b pos) (x_bin φ fa fb) := by
  obtain ⟨ta, tb, pa, pb, k2⟩ := two_ok ha hb
  exact ⟨_, pe_op ho pa pb, bin_ok hv k2⟩
theorem ed_cmp (hv : VB X.K r φ) (ho : OpR X (compareOp cop) r) (hm : behindInMarks cop b = false) (ha : ED X a fa) (hb : ED X b fb) : ED X (.Compare a [cop] [b] pos) (x_bin φ fa fb) := by
  obtain ⟨ta, tb, pa, pb, k2⟩ := two_ok ha hb
  exact ⟨_, pe_cmpR ho pa pb hm, bin_ok hv k2⟩
end
/-- a result that is a bool, as a test -/
def t_of (f : Fe) : Ft := fun e => match f e with
  | some (.im (.bool b), e1) => some (b, e1)
  | _ => none
theorem t_of_ok {f : Fe} {e e' : Ev} {b : Bool} (q : t_of f e = some (b, e')) : f e = some (.im (.bool b), e') := by
  unfold t_of at q
  split at q
  · rename_i b1 e1 h
    cases q
    exact h
  · cases q
section
variable {X : Cx} {a b c : Expr} {fa fb fc : Fe} {pos : Pos} {cop cop' : CmpOp} {r r' : R2} {φ ψ : PyData → PyData → Option Rs}
theorem td_cmp (hv : VB X.K r φ) (ho : OpR X (compareOp cop) r) (hm : behindInMarks cop b = false) (ha : ED X a fa) (hb : ED X b fb) : TD X (.Compare a [cop] [b] pos) (t_of (x_bin φ fa fb)) := by
  obtain ⟨ta, tb, pa, pb, k2⟩ := two_ok ha hb
  refine ⟨_, pt_cmpR ho pa pb hm, fun m E G0 G e σ H k e' Q R q P => ?_⟩
  exact bin_ok hv k2 m E G0 G e σ H _ e' _ R (t_of_ok q) fun v G' H' R' S' V' _ => by
    cases V'
    exact ⟨k, rfl, P G' H' R' S'⟩
/-- an expression that gives a bool, as a test -/
theorem td_val {x : Expr} {f : Fe} (h : ED X x f) (he : ∀ whole, isTrue x X.env whole = (do let v ← whole; standAt x.pos; holding [v] (truthy v)) := by intro _; rfl) : TD X x (t_of f) := by
  obtain ⟨t, p, k⟩ := h
  refine ⟨_, pt_val p he, fun m E G0 G e σ H b e' Q R q P => ?_⟩
  exact k m E G0 G e σ H _ e' _ R (t_of_ok q) fun v G' H' R' S' V' _ => by
    cases V'
    exact ⟨b, rfl, P G' H' R' S'⟩
def t_not (f : Ft) : Ft := fun e => match f e with
  | some (b, e1) => some (!b, e1)
  | none => none
theorem td_not {f : Ft} (h : TD X a f) : TD X (.UnaryOp .Not a pos) (t_not f) := by
  obtain ⟨t, p, k⟩ := h
  refine ⟨_, pt_not p, fun m E G0 G e σ H b e' Q R q P => ?_⟩
  unfold t_not at q
  cases h1 : f e with
  | none => simp only [h1] at q; cases q
  | some z =>
    obtain ⟨b1, e1⟩ := z
    simp only [h1, Option.some.injEq, Prod.mk.injEq] at q
    obtain ⟨rfl, rfl⟩ := q
    exact k m E G0 G e σ H b1 e1 _ R h1 P
def t_and (f g : Ft) : Ft := fun e => match f e with
  | some (true, e1) => g e1
  | some (false, e1) => some (false, e1)
  | none => none
def t_or (f g : Ft) : Ft := fun e => match f e with
  | some (true, e1) => some (true, e1)
  | some (false, e1) => g e1
  | none => none
variable {f g : Ft} {rest : List Expr}
theorem wd_and1 (h : TD X a f) : WD X (.BoolOp .And [a] pos) f := by
  obtain ⟨t, p, k⟩ := h
  exact ⟨_, pw_and1 p, k⟩
theorem wd_or1 (h : TD X a f) : WD X (.BoolOp .Or [a] pos) f := by
  obtain ⟨t, p, k⟩ := h
  exact ⟨_, pw_or1 p, k⟩
theorem wd_and (h : TD X a f) (h2 : WD X (.BoolOp .And (b :: rest) pos) g) : WD X (.BoolOp .And (a :: b :: rest) pos) (t_and f g) := by
  obtain ⟨t, p, k⟩ := h
  obtain ⟨t2, p2, k2⟩ := h2
  refine ⟨_, pw_and p p2, fun m E G0 G e σ H c e' Q R q P => ?_⟩
  unfold t_and at q
  cases h1 : f e with
  | none => simp only [h1] at q; cases q
  | some z =>
    obtain ⟨b1, e1⟩ := z
    cases b1 with
    | true =>
      simp only [h1] at q
      refine k m E G0 G e σ H true e1 _ R h1 fun G' H' R' S' => ?_
      show if true = true then _ else _
      rw [if_pos rfl]
      exact k2 m E G0 G' e1 σ H' c e' Q R' q fun G2 H2 R2 S2 => P G2 H2 R2 (S'.trans S2)
    | false =>
      simp only [h1, Option.some.injEq, Prod.mk.injEq] at q
      obtain ⟨rfl, rfl⟩ := q
      refine k m E G0 G e σ H false e1 _ R h1 fun G' H' R' S' => ?_
      show if false = true then _ else _
      rw [if_neg Bool.false_ne_true]
      exact P G' H' R' S'
theorem wd_or (h : TD X a f) (h2 : WD X (.BoolOp .Or (b :: rest) pos) g) : WD X (.BoolOp .Or (a :: b :: rest) pos) (t_or f g) := by
  obtain ⟨t, p, k⟩ := h
  obtain ⟨t2, p2, k2⟩ := h2
  refine ⟨_, pw_or p p2, fun m E G0 G e σ H c e' Q R q P => ?_⟩
  unfold t_or at q
  cases h1 : f e with
  | none => simp only [h1] at q; cases q
  | some z =>
    obtain ⟨b1, e1⟩ := z
    cases b1 with
    | false =>
      simp only [h1] at q
      refine k m E G0 G e σ H false e1 _ R h1 fun G' H' R' S' => ?_
      show if false = true then _ else _
      rw [if_neg Bool.false_ne_true]
      exact k2 m E G0 G' e1 σ H' c e' Q R' q fun G2 H2 R2 S2 => P G2 H2 R2 (S'.trans S2)
    | true =>
      simp only [h1, Option.some.injEq, Prod.mk.injEq] at q
      obtain ⟨rfl, rfl⟩ := q
      refine k m E G0 G e σ H true e1 _ R h1 fun G' H' R' S' => ?_
      show if true = true then _ else _
      rw [if_pos rfl]
      exact P G' H' R' S'
theorem WD.td {x : Expr} (h : WD X x f) : TD X x f := by
  obtain ⟨t, p, k⟩ := h
  exact ⟨t, p.pt, k⟩
/-! and, or, not as values: bools -/
def x_and (f g : Fe) : Fe := fun e => match f e with
  | some (.im (.bool true), e1) => g e1
  | some (.im (.bool false), e1) => some (.im (.bool false), e1)
  | _ => none
def x_or (f g : Fe) : Fe := fun e => match f e with
  | some (.im (.bool true), e1) => some (.im (.bool true), e1)
  | some (.im (.bool false), e1) => g e1
  | _ => none
def x_not (f : Fe) : Fe := fun e => match f e with
  | some (.im (.bool b), e1) => some (.im (.bool !b), e1)
  | _ => none
theorem ed_one {op : BoolOp} {f : Fe} (h : ED X a f) : ED X (.BoolOp op [a] pos) f := by
  obtain ⟨t, p, k⟩ := h
  exact ⟨t, pe_one p, k⟩
theorem ed_and (h : ED X a fa) (h2 : ED X (.BoolOp .And (b :: rest) pos) fb) : ED X (.BoolOp .And (a :: b :: rest) pos) (x_and fa fb) := by
  obtain ⟨t, p, k⟩ := h
  obtain ⟨t2, p2, k2⟩ := h2
  refine ⟨_, pe_and p p2, fun m E G0 G e σ H r e' Q R q P => ?_⟩
  unfold x_and at q
  split at q
  · rename_i e1 h1
    refine k m E G0 G e σ H _ e1 _ R h1 fun v G' H' R' S' V' _ => ?_
    cases V'
    refine ⟨true, rfl, ?_⟩
    rw [if_pos rfl]
    exact k2 m E G0 G' e1 σ H' r e' Q R' q (P.aft S')
  · rename_i e1 h1
    cases q
    refine k m E G0 G e σ H _ _ _ R h1 fun v G' H' R' S' V' _ => ?_
    cases V'
    refine ⟨false, rfl, ?_⟩
    rw [if_neg Bool.false_ne_true]
    exact P _ G' H' R' S' (.bl false) True.intro
  · cases q
theorem ed_or (h : ED X a fa) (h2 : ED X (.BoolOp .Or (b :: rest) pos) fb) : ED X (.BoolOp .Or (a :: b :: rest) pos) (x_or fa fb) := by
  obtain ⟨t, p, k⟩ := h
  obtain ⟨t2, p2, k2⟩ := h2
  refine ⟨_, pe_or p p2, fun m E G0 G e σ H r e' Q R q P => ?_⟩
  unfold x_or at q
  split at q
  · rename_i e1 h1
    cases q
    refine k m E G0 G e σ H _ _ _ R h1 fun v G' H' R' S' V' _ => ?_
    cases V'
    refine ⟨true, rfl, ?_⟩
    rw [if_pos rfl]
    exact P _ G' H' R' S' (.bl true) True.intro
  · rename_i e1 h1
    refine k m E G0 G e σ H _ e1 _ R h1 fun v G' H' R' S' V' _ => ?_
    cases V'
    refine ⟨false, rfl, ?_⟩
    rw [if_neg Bool.false_ne_true]
    exact k2 m E G0 G' e1 σ H' r e' Q R' q (P.aft S')
  · cases q
theorem ed_not (h : ED X a fa) : ED X (.UnaryOp .Not a pos) (x_not fa) := by
  obtain ⟨t, p, k⟩ := h
  refine ⟨_, pe_not p, fun m E G0 G e σ H r e' Q R q P => ?_⟩
  unfold x_not at q
  split at q
  · rename_i b e1 h1
    cases q
    refine k m E G0 G e σ H _ _ _ R h1 fun v G' H' R' S' V' _ => ?_
    cases V'
    exact ⟨b, rfl, P _ G' H' R' S' (.bl (!b)) True.intro⟩
  · cases q
def x_if (c : Ft) (f g : Fe) : Fe := fun e => match c e with
  | some (true, e1) => f e1
  | some (false, e1) => g e1
  | none => none
theorem ed_if {cx : Expr} (hc : TD X cx f) (ha : ED X a fa) (hb : ED X b fb) : ED X (.IfExp cx a b pos) (x_if f fa fb) := by
  obtain ⟨t, p, k⟩ := hc
  obtain ⟨t1, p1, k1⟩ := ha
  obtain ⟨t2, p2, k2⟩ := hb
  refine ⟨_, pe_ifExp p p1 p2, fun m E G0 G e σ H r e' Q R q P => ?_⟩
  unfold x_if at q
  split at q
  · rename_i e1 h1
    refine k m E G0 G e σ H true e1 _ R h1 fun G' H' R' S' => ?_
    rw [if_pos rfl]
    exact k1 m E G0 G' e1 σ H' r e' Q R' q (P.aft S')
  · rename_i e1 h1
    refine k m E G0 G e σ H false e1 _ R h1 fun G' H' R' S' => ?_
    rw [if_neg Bool.false_ne_true]
    exact k2 m E G0 G' e1 σ H' r e' Q R' q (P.aft S')
  · cases q
/-! a op b op' c -/
def x_chain (φ ψ : PyData → PyData → Option Rs) (fa fb fc : Fe) : Fe := fun e => match two fa fb e with
  | some p => (match look2 p with
    | some (a, b, e2) => (match φ a b with
      | some (.im (.bool true)) => (match fc e2 with
        | some (rc, e3) => (match lookR e3 p.2.1, lookR e3 (frzR rc) with
          | some b, some c => (match ψ b c with
            | some r => some (r, e3)
            | none => none)
          | _, _ => none)
        | none => none)
      | some (.im (.bool false)) => some (.im (.bool false), e2)
      | _ => none)
    | none => none)
  | none => none
theorem chain_ok {ta tb tc : TE} (hv : VB X.K r φ) (hv' : VB X.K r' ψ) (k2 : ∀ (m : Option Addr) (E : Ef) (G0 G : Hp) (e : Ev) (σ : St) (H : Hp) (ra rb : Rs) (e' : Ev) (R : V → V → Hp → Prop),
    Rl X.K m E G0 G e σ H → two fa fb e = some (ra, rb, e') → (∀ u v G' H', Rl X.K m E G0 G' e' σ H' → Stp σ G H e G' H' e' → Vr X.K E G' H' σ e' u ra → Vr X.K E G' H' σ e' v rb → R u v H') → ta σ H fun x H1 => tb σ H1 fun y H2 => R x y H2)
    (k3 : ∀ (m : Option Addr) (E : Ef) (G0 G : Hp) (e : Ev) (σ : St) (H : Hp) (r : Rs) (e' : Ev) (Q : VK), Rl X.K m E G0 G e σ H → fc e = some (r, e') → Po X.K m E G0 σ G H e r e' Q → tc σ H Q)
    (m : Option Addr) (E : Ef) (G0 G : Hp) (e : Ev) (σ : St) (H : Hp) (rr : Rs) (e' : Ev) (Q : VK) (R : Rl X.K m E G0 G e σ H) (q : x_chain φ ψ fa fb fc e = some (rr, e')) (P : Po X.K m E G0 σ G H e rr e' Q) : tChain r r' ta tb tc σ H Q := by
  unfold x_chain at q
  cases h1 : two fa fb e with
  | none => simp only [h1] at q; cases q
  | some p =>
    obtain ⟨ra, rb, e2⟩ := p
    simp only [h1] at q
    cases h2 : look2 (ra, rb, e2) with
    | none => simp only [h2] at q; cases q
    | some z =>
      obtain ⟨da, db, e3⟩ := z
      simp only [h2] at q
      have hl : lookR e2 ra = some da ∧ lookR e2 rb = some db ∧ e2 = e3 := by
        unfold look2 at h2
        dsimp only at h2
        cases h4 : lookR e2 ra with
        | none => simp only [h4] at h2; cases h2
        | some d1 =>
          cases h5 : lookR e2 rb with
          | none => simp only [h4, h5] at h2; cases h2
          | some d2 =>
            simp only [h4, h5, Option.some.injEq, Prod.mk.injEq] at h2
            obtain ⟨rfl, rfl, rfl⟩ := h2
            exact ⟨rfl, rfl, rfl⟩
      obtain ⟨l1, l2, rfl⟩ := hl
      refine k2 m E G0 G e σ H ra rb e2 _ R h1 fun u v G' H' R' S' V1 V2 => ?_
      split at q
      · rename_i h3
        refine hv m E G0 G' e2 σ H' u v _ _ _ _ R' (R'.look V1 l1) (R'.look V2 l2) h3 fun w G3 H3 R3 S3 V3 _ => ?_
        cases V3
        refine ⟨true, rfl, ?_⟩
        rw [if_pos rfl]
        cases h4 : fc e2 with
        | none => simp only [h4] at q; cases q
        | some z =>
          obtain ⟨rc, e4⟩ := z
          simp only [h4] at q
          refine k3 m E G0 G3 e2 σ H3 rc e4 _ R3 h4 fun w2 G4 H4 R4 S4 V4 N4 => ?_
          obtain ⟨G5, R5, S5, s5, V5⟩ := R4.freeze S4 V4 N4
          cases h5 : lookR e4 rb with
          | none => simp only [h5] at q; cases q
          | some d5 =>
            cases h6 : lookR e4 (frzR rc) with
            | none => simp only [h5, h6] at q; cases q
            | some d6 =>
              simp only [h5, h6] at q
              cases h7 : ψ d5 d6 with
              | none => simp only [h7] at q; cases q
              | some r7 =>
                simp only [h7, Option.some.injEq, Prod.mk.injEq] at q
                obtain ⟨rfl, rfl⟩ := q
                exact hv' m E G0 G5 e4 σ H4 v w2 _ _ _ Q R5 (R5.look ((V2.stp S3).stp S5) h5) (R5.look V5 h6) h7 (P.aft (S'.trans (S3.trans S5)))
      · rename_i h3
        cases q
        refine hv m E G0 G' _ σ H' u v _ _ _ _ R' (R'.look V1 l1) (R'.look V2 l2) h3 fun w G3 H3 R3 S3 V3 _ => ?_
        cases V3
        refine ⟨false, rfl, ?_⟩
        rw [if_neg Bool.false_ne_true]
        exact P _ G3 H3 R3 (S'.trans S3) (.bl false) True.intro
      · cases q
theorem ed_chain (hv : VB X.K r φ) (ho : OpR X (compareOp cop) r) (hv' : VB X.K r' ψ) (ho' : OpR X (compareOp cop') r') (ha : ED X a fa) (hb : ED X b fb) (hc : ED X c fc)
    (hm : lastMarks [cop, cop'] [b, c] = false := by with_unfolding_all rfl) : ED X (.Compare a [cop, cop'] [b, c] pos) (x_chain φ ψ fa fb fc) := by
  obtain ⟨ta, tb, pa, pb, k2⟩ := two_ok ha hb
  obtain ⟨tc, pc, k3⟩ := hc
  exact ⟨_, pe_chain ho ho' pa pb pc hm, chain_ok hv hv' k2 k3⟩
theorem td_chain (hv : VB X.K r φ) (ho : OpR X (compareOp cop) r) (hv' : VB X.K r' ψ) (ho' : OpR X (compareOp cop') r') (ha : ED X a fa) (hb : ED X b fb) (hc : ED X c fc)
    (hm : lastMarks [cop, cop'] [b, c] = false := by with_unfolding_all rfl) : TD X (.Compare a [cop, cop'] [b, c] pos) (t_of (x_chain φ ψ fa fb fc)) := by
  obtain ⟨ta, tb, pa, pb, k2⟩ := two_ok ha hb
  obtain ⟨tc, pc, k3⟩ := hc
  refine ⟨_, pt_chain ho ho' pa pb pc hm, fun m E G0 G e σ H k e' Q R q P => ?_⟩
  exact chain_ok hv hv' k2 k3 m E G0 G e σ H _ e' _ R (t_of_ok q) fun v G' H' R' S' V' _ => by
    cases V'
    exact ⟨k, rfl, P G' H' R' S'⟩
end
end DL
namespace DL
open PySem PySem.Spec PyProof.Rows L2

/-! ### rules over data: ints -/
def d_int2 (f : Int → Int → PyData) (c : Int → Int → Bool) : PyData → PyData → Option PyData
  | .int i, .int j => if c i j = true then some (f i j) else none
  | _, _ => none
section
variable {K : PySem.W.Frag} {G H : Hp} {v : V} {d : PyData} {ds : List PyData} {vs ws : List V}
theorem int2_ok {f : Int → Int → PyData} {c : Int → Int → Bool} {dx dy d : PyData} (h : d_int2 f c dx dy = some d) : ∃ i j, dx = .int i ∧ dy = .int j ∧ c i j = true ∧ d = f i j := by
  unfold d_int2 at h
  split at h
  · rename_i i j
    by_cases z : c i j = true
    · rw [if_pos z] at h
      cases h
      exact ⟨i, j, rfl, rfl, z, rfl⟩
    · rw [if_neg z] at h
      cases h
  · cases h
theorem vb_int {C : Int → Int → Prop} {g : Int → Int → Int} {c : Int → Int → Bool} (hc : ∀ i j, c i j = true → C i j) : VB K (rI C fun i j => .int (g i j)) (fun a b => (d_int2 (fun i j => .int (g i j)) c a b).map Rs.im) :=
  VB.pure fun G H x y dx dy d Q s lx ly h k => by
    obtain ⟨i, j, rfl, rfl, z, rfl⟩ := int2_ok h
    exact ⟨i, j, lx.int, ly.int, hc i j z, k _ (.int _)⟩
theorem vb_int0 {g : Int → Int → Int} : VB K (rI0 fun i j => .int (g i j)) (fun a b => (d_int2 (fun i j => .int (g i j)) (fun _ _ => true) a b).map Rs.im) :=
  VB.pure fun G H x y dx dy d Q s lx ly h k => by
    obtain ⟨i, j, rfl, rfl, z, rfl⟩ := int2_ok h
    exact ⟨i, j, lx.int, ly.int, k _ (.int _)⟩
theorem vb_cmp0 {g : Int → Int → Bool} : VB K (rI0 fun i j => .bl (g i j)) (fun a b => (d_int2 (fun i j => .bool (g i j)) (fun _ _ => true) a b).map Rs.im) :=
  VB.pure fun G H x y dx dy d Q s lx ly h k => by
    obtain ⟨i, j, rfl, rfl, z, rfl⟩ := int2_ok h
    exact ⟨i, j, lx.int, ly.int, k _ (.bl _)⟩
end
def p_sub : PyData → PyData → Option Rs := fun a b => (d_int2 (fun i j => .int (i - j)) (fun _ _ => true) a b).map Rs.im
def p_lt : PyData → PyData → Option Rs := fun a b => (d_int2 (fun i j => .bool (decide (i < j))) (fun _ _ => true) a b).map Rs.im
def p_le : PyData → PyData → Option Rs := fun a b => (d_int2 (fun i j => .bool (decide (i ≤ j))) (fun _ _ => true) a b).map Rs.im
def p_gt : PyData → PyData → Option Rs := fun a b => (d_int2 (fun i j => .bool (decide (j < i))) (fun _ _ => true) a b).map Rs.im
def p_ge : PyData → PyData → Option Rs := fun a b => (d_int2 (fun i j => .bool (decide (j ≤ i))) (fun _ _ => true) a b).map Rs.im
/-- within 64 bits on one side -/
def mulC (i j : Int) : Bool := decide ((-18446744073709551616 < i ∧ i < 18446744073709551616) ∨ (-18446744073709551616 < j ∧ j < 18446744073709551616))
def mulWC (i j : Int) : Bool := decide (i.natAbs.log2 + j.natAbs.log2 < 1000000)
def p_mul : PyData → PyData → Option Rs := orF (fun a b => (d_int2 (fun i j => .int (i * j)) mulC a b).map Rs.im) (fun a b => (d_int2 (fun i j => .int (i * j)) mulWC a b).map Rs.im)
def divC (_ j : Int) : Bool := decide (0 < j ∧ j < 1073741824)
def p_div : PyData → PyData → Option Rs := fun a b => (d_int2 (fun i j => .int (i / j)) divC a b).map Rs.im
def p_mod : PyData → PyData → Option Rs := fun a b => (d_int2 (fun i j => .int (i % j)) (fun _ j => decide (0 < j)) a b).map Rs.im
def powC (i j : Int) : Bool := decide (0 ≤ j ∧ j ≤ 1000000 ∧ i.natAbs < 18446744073709551616)
def p_pow : PyData → PyData → Option Rs := fun a b => (d_int2 (fun i j => .int (i ^ j.toNat)) powC a b).map Rs.im
section
variable {X : Cx}
theorem vb_sub : VB X.K (rI0 fun i j => .int (i - j)) p_sub := vb_int0
theorem vb_lt : VB X.K (rI0 fun i j => .bl (decide (i < j))) p_lt := vb_cmp0
theorem vb_le : VB X.K (rI0 fun i j => .bl (decide (i ≤ j))) p_le := vb_cmp0
theorem vb_gt : VB X.K (rI0 fun i j => .bl (decide (j < i))) p_gt := vb_cmp0
theorem vb_ge : VB X.K (rI0 fun i j => .bl (decide (j ≤ i))) p_ge := vb_cmp0
theorem mulC_ok {i j : Int} (h : mulC i j = true) : CMul i j := by
  have h1 := of_decide_eq_true h
  unfold CMul
  have e : (2 : Int) ^ 64 = 18446744073709551616 := by decide
  rw [e]
  exact h1
theorem vb_mul : VB X.K (fun x y H Q => (rI CMul fun i j => .int (i * j)) x y H Q ∨ (rI CMulW fun i j => .int (i * j)) x y H Q) p_mul :=
  VB.or (vb_int fun i j z => mulC_ok z) (vb_int fun i j z => (of_decide_eq_true z : i.natAbs.log2 + j.natAbs.log2 < 1000000))
theorem op_mul2 : OpR X (binaryOp .Mult) (fun x y H Q => (rI CMul fun i j => .int (i * j)) x y H Q ∨ (rI CMulW fun i j => .int (i * j)) x y H Q) := OpR.or op_mul op_mulW
theorem vb_div : VB X.K (rI CDiv fun i j => .int (i / j)) p_div := vb_int fun i j z => by
  have h := of_decide_eq_true z
  exact h
theorem vb_mod : VB X.K (rI (fun _ j => 0 < j) fun i j => .int (i % j)) p_mod := vb_int fun i j z => of_decide_eq_true z
theorem vb_pow : VB X.K (rI CPow fun i j => .int (i ^ j.toNat)) p_pow := vb_int fun i j z => by
  have h := of_decide_eq_true z
  unfold CPow
  rw [show (2 : Nat) ^ 64 = 18446744073709551616 by decide]
  exact h
end

/-! ### sequences -/
def okLen (n : Nat) : Bool := decide (n ≤ 16777216)
theorem okLen_ok {n : Nat} (h : okLen n = true) : n ≤ sizeLine := by
  have h1 := of_decide_eq_true h
  rw [sizeLine_eq]
  exact h1
def rCatS (K : PySem.W.Frag) : R2 := fun x y H Q => ∃ a b xs zs, x = .ref a ∧ y = .ref b ∧ SqL K H a xs ∧ SqL K H b zs ∧ xs.length + zs.length ≤ sizeLine ∧ ∀ p, H p = none → Q (.ref p) (upd H p (.lst (xs ++ zs)))
theorem op_catS {X : Cx} : OpR X (binaryOp .Add) (rCatS X.K) := by
  rintro pins s σ H _ _ v u Q I rx ry ⟨a, b, xs, zs, rfl, rfl, ha, hb, small, fin⟩
  cases rx
  cases ry
  obtain ⟨us, va, ⟨⟨c1, d1, t1, sl1⟩, n1, at1, o1, _, p1⟩, z1⟩ := I.list ha
  obtain ⟨ws, vb, ⟨⟨c2, d2, t2, sl2⟩, n2, at2, o2, _, p2⟩, z2⟩ := I.list hb
  dsimp only at o1 p1 o2 p2
  subst o1 p1 o2 p2
  have la := va.length
  have lb := vb.length
  have fits : (xs ++ zs).length ≤ sizeLine := by
    rw [List.length_append]
    exact small
  have sum := PyProof.Rows.list_addW a b us.toArray ws.toArray n1 n2 d1 d2 sl1 sl2 (by simp only [List.size_toArray]; omega)
  refine concat_meets (T := "list") ⟨_, at1, rfl⟩ ⟨_, at2, rfl⟩ noFill_list_add seq_list_add F.slot_list_add F.entry_list_add (F.args_list_add_2 _ _) sum ⟨at1, at2, ?_⟩
  have laid := I.lnew (t' := s.toks) (va.append vb) fits
  rw [← List.append_toArray] at laid
  exact ⟨.ref s.heap.objs.size, _, laid, rfl, fin _ I.fresh⟩
def q_cat : PyData → PyData → Option Rs
  | .list a, .list b => if okLen (a.length + b.length) = true then some (.ac (a ++ b)) else none
  | _, _ => none
def q_catT : PyData → PyData → Option Rs
  | .tuple a, .tuple b => if okLen (a.length + b.length) = true then some (.im (.tuple (a ++ b))) else none
  | _, _ => none
def p_add : PyData → PyData → Option Rs := orF (fun a b => (d_int2 (fun i j => .int (i + j)) (fun _ _ => true) a b).map Rs.im) (orF q_cat q_catT)
section
variable {X : Cx}
theorem vb_cat {K : PySem.W.Frag} : VB K (rCatS K) q_cat := by
  intro m E G0 G e σ H x y dx dy rr Q R lx ly q P
  unfold q_cat at q
  split at q
  · rename_i a b
    by_cases z : okLen (a.length + b.length) = true
    · rw [if_pos z] at q
      cases q
      obtain ⟨p1, w1, rfl, s1, k1⟩ := lx.list R.gh
      obtain ⟨p2, w2, rfl, s2, k2⟩ := ly.list R.gh
      have z1 := okLen_ok z
      refine ⟨p1, p2, w1, w2, rfl, rfl, s1, s2, by rw [dpAll_len k1, dpAll_len k2]; exact z1, fun p hp => ?_⟩
      obtain ⟨R', S', V', N'⟩ := R.newL hp (dpAll_app k1 k2)
      exact P _ _ _ R' S' V' N'
    · rw [if_neg z] at q
      cases q
  · cases q
theorem vb_catT {K : PySem.W.Frag} : VB K (rCatA K) q_catT := by
  intro m E G0 G e σ H x y dx dy rr Q R lx ly q P
  unfold q_catT at q
  split at q
  · rename_i a b
    by_cases z : okLen (a.length + b.length) = true
    · rw [if_pos z] at q
      cases q
      obtain ⟨p1, w1, e1, s1, k1⟩ := lx.tup R.gh
      obtain ⟨p2, w2, e2, s2, k2⟩ := ly.tup R.gh
      have z1 := okLen_ok z
      refine ⟨p1, p2, w1, w2, e1, e2, s1, s2, by rw [dpAll_len k1, dpAll_len k2]; exact z1, fun h => ?_, fun h1 h2 => ?_, fun _ _ p hp => ?_⟩
      · have ea : a = [] := by
          subst h
          cases k1
          rfl
        subst ea
        rcases ly with ly | ⟨_, _, _, _, z, _⟩
        · rw [← e2]
          exact P.now R ly True.intro
        · cases z
      · have eb : b = [] := by
          subst h2
          cases k2
          rfl
        subst eb
        rcases lx with lx | ⟨_, _, _, _, z, _⟩
        · rw [← e1, List.append_nil] at *
          exact P.now R lx True.intro
        · cases z
      · obtain ⟨R', S', D'⟩ := R.newT hp (dpAll_app k1 k2)
        exact P _ _ _ R' S' D' True.intro
    · rw [if_neg z] at q
      cases q
  · cases q
theorem vb_add : VB X.K (fun x y H Q => (rI0 fun i j => .int (i + j)) x y H Q ∨ (rCatS X.K x y H Q ∨ rCatA X.K x y H Q)) p_add := VB.or vb_int0 (VB.or vb_cat vb_catT)
theorem op_add3 : OpR X (binaryOp .Add) (fun x y H Q => (rI0 fun i j => .int (i + j)) x y H Q ∨ (rCatS X.K x y H Q ∨ rCatA X.K x y H Q)) := OpR.or op_add (OpR.or op_catS op_catA)
end

/-! ### ==, !=, in, is -/
def p_eq : PyData → PyData → Option Rs := fun a b => if (SeqAt.shaped a && SeqAt.shaped b) = true then some (.im (.bool (PyData.eqv a b))) else none
def p_ne : PyData → PyData → Option Rs := fun a b => if (SeqAt.shaped a && SeqAt.shaped b) = true then some (.im (.bool (!PyData.eqv a b))) else none
def flatD : PyData → Bool
  | .none => true
  | .bool _ => true
  | .int _ => true
  | .str _ => true
  | _ => false
def inD (x : PyData) (ds : List PyData) : Bool := ds.any fun y => PyData.eqv y x
def seqD : PyData → Option (List PyData)
  | .list ds => some ds
  | .tuple ds => some ds
  | _ => none
def p_inB (neg : Bool) : PyData → PyData → Option Rs := fun x y => match seqD y with
  | some ds => if (flatD x && ds.all flatD) = true then some (.im (.bool (if neg = true then !inD x ds else inD x ds))) else none
  | none => none
abbrev p_in := p_inB false
abbrev p_notin := p_inB true
def p_isN (neg : Bool) : PyData → PyData → Option PyData
  | .none, .none => some (.bool (!neg))
  | .list _, .none => some (.bool neg)
  | .tuple _, .none => some (.bool neg)
  | .bool _, .none => some (.bool neg)
  | .int _, .none => some (.bool neg)
  | .str _, .none => some (.bool neg)
  | _, _ => none
def p_isB (neg : Bool) : PyData → PyData → Option PyData
  | .bool a, .bool b => some (.bool (if neg = true then !(decide (a = b)) else decide (a = b)))
  | _, _ => none
def p_is : PyData → PyData → Option Rs := orF (fun a b => (p_isN false a b).map Rs.im) (fun a b => (p_isB false a b).map Rs.im)
def p_isnot : PyData → PyData → Option Rs := orF (fun a b => (p_isN true a b).map Rs.im) (fun a b => (p_isB true a b).map Rs.im)
section
variable {X : Cx} {K : PySem.W.Frag}
theorem shp {a b : PyData} (h : (SeqAt.shaped a && SeqAt.shaped b) = true) : SeqAt.shaped a = true ∧ SeqAt.shaped b = true := Bool.and_eq_true_iff.mp h
theorem vb_eq : VB K (rEqD K) p_eq := by
  intro m E G0 G e σ H x y dx dy rr Q R lx ly q P
  unfold p_eq at q
  by_cases z : (SeqAt.shaped dx && SeqAt.shaped dy) = true
  · rw [if_pos z] at q
    cases q
    exact ⟨dx, dy, lx.dp R.gh, ly.dp R.gh, (shp z).1, (shp z).2, P.now R (.bl _) True.intro⟩
  · rw [if_neg z] at q
    cases q
theorem vb_ne : VB K (rNeD K) p_ne := by
  intro m E G0 G e σ H x y dx dy rr Q R lx ly q P
  unfold p_ne at q
  by_cases z : (SeqAt.shaped dx && SeqAt.shaped dy) = true
  · rw [if_pos z] at q
    cases q
    exact ⟨dx, dy, lx.dp R.gh, ly.dp R.gh, (shp z).1, (shp z).2, P.now R (.bl _) True.intro⟩
  · rw [if_neg z] at q
    cases q
theorem dp_flat {G : Hp} {v : V} {d : PyData} (h : Dp K G v d) (f : flatD d = true) : flatV v = true := by
  cases h with
  | lst _ _ => cases f
  | tup _ _ => cases f
  | _ => rfl
theorem dp_eqV {G : Hp} {u v : V} {c d : PyData} (h1 : Dp K G u c) (h2 : Dp K G v d) (f1 : flatD c = true) (f2 : flatD d = true) : eqV u v = PyData.eqv c d := by
  cases h1 <;> cases h2 <;> first
    | (cases f1; done)
    | (cases f2; done)
    | rfl
    | (simp only [eqV, PyData.eqv]; done)
theorem flat_all {G : Hp} : ∀ {vs : List V} {ds : List PyData}, DpAll K G vs ds → ds.all flatD = true → vs.all flatV = true
  | _, _, .nil, _ => rfl
  | _, _, .cons h t, f => by
    rw [List.all_cons, Bool.and_eq_true] at f ⊢
    exact ⟨dp_flat h f.1, flat_all t f.2⟩
theorem in_all {G : Hp} {v : V} {d : PyData} (h : Dp K G v d) (f : flatD d = true) : ∀ {vs : List V} {ds : List PyData}, DpAll K G vs ds → ds.all flatD = true → inV v vs = inD d ds
  | _, _, .nil, _ => rfl
  | _, _, .cons h2 t, f2 => by
    rw [List.all_cons, Bool.and_eq_true] at f2
    have e := in_all h f t f2.2
    unfold inV inD at e ⊢
    rw [List.any_cons, List.any_cons, dp_eqV h2 h f2.1 f, e]
theorem vb_inB {neg : Bool} : VB K (rIn K neg) (p_inB neg) := by
  intro m E G0 G e σ H x y dx dy rr Q R lx ly q P
  unfold p_inB at q
  cases h : seqD dy with
  | none => simp only [h] at q; cases q
  | some ds =>
    simp only [h] at q
    by_cases z : (flatD dx && ds.all flatD) = true
    · rw [if_pos z] at q
      cases q
      obtain ⟨f1, f2⟩ := Bool.and_eq_true_iff.mp z
      have hx : Dp K G x dx := by
        rcases lx with lx | ⟨_, _, _, _, e, _⟩
        · exact lx
        · subst e
          cases f1
      have hs : ∃ p ws, y = .ref p ∧ (SqL K H p ws ∨ SqT K H p ws) ∧ DpAll K G ws ds := by
        unfold seqD at h
        split at h
        · cases h
          obtain ⟨p, ws, e, s1, k⟩ := ly.list R.gh
          exact ⟨p, ws, e, .inl s1, k⟩
        · cases h
          obtain ⟨p, ws, e, s1, k⟩ := ly.tup R.gh
          exact ⟨p, ws, e, .inr s1, k⟩
        · cases h
      obtain ⟨p, ws, e, s1, k⟩ := hs
      have ei := in_all hx f1 k f2
      refine ⟨p, ws, e, s1, dp_flat hx f1, flat_all k f2, ?_⟩
      rw [ei]
      cases neg with
      | true => exact P.now R (.bl _) True.intro
      | false => exact P.now R (.bl _) True.intro
    · rw [if_neg z] at q
      cases q
theorem lv_non {G H : Hp} {v : V} {d : PyData} (h : Lv K G H v d) : d = .none ∨ v ≠ .non := by
  rcases h with h | ⟨p, ws, ds, rfl, rfl, _⟩
  · cases h with
    | non => exact .inl rfl
    | _ => exact .inr fun z => by cases z
  · exact .inr fun z => by cases z
theorem isN_ok {neg : Bool} {a b d : PyData} {G H : Hp} {x y : V} (h : p_isN neg a b = some d) (lx : Lv K G H x a) (ly : Lv K G H y b) : y = .non ∧ d = .bool (if neg = true then !decide (x = .non) else decide (x = .non)) := by
  have hx := lv_non lx
  unfold p_isN at h
  split at h
  · have e := lx.none
    cases h
    subst e
    refine ⟨ly.none, ?_⟩
    cases neg <;> rfl
  all_goals first
    | (cases h
       refine ⟨ly.none, ?_⟩
       have z : x ≠ .non := by
         rcases hx with z | z
         · cases z
         · exact z
       rw [decide_eq_false z]
       cases neg <;> rfl)
    | (cases h; done)
theorem vb_is : VB K (fun x y H Q => (y = .non ∧ Q (.bl (decide (x = .non))) H) ∨ rIsB x y H Q) p_is :=
  VB.or (VB.pure fun G H x y dx dy d Q s lx ly h k => by
      obtain ⟨e1, rfl⟩ := isN_ok h lx ly
      exact ⟨e1, k _ (.bl _)⟩)
    (VB.pure fun G H x y dx dy d Q s lx ly h k => by
      unfold p_isB at h
      split at h
      · cases h
        exact ⟨_, _, lx.bool, ly.bool, k _ (.bl _)⟩
      · cases h)
theorem vb_isnot : VB K (fun x y H Q => (y = .non ∧ Q (.bl (!decide (x = .non))) H) ∨ rNotB x y H Q) p_isnot :=
  VB.or (VB.pure fun G H x y dx dy d Q s lx ly h k => by
      obtain ⟨e1, rfl⟩ := isN_ok h lx ly
      exact ⟨e1, k _ (.bl _)⟩)
    (VB.pure fun G H x y dx dy d Q s lx ly h k => by
      unfold p_isB at h
      split at h
      · cases h
        exact ⟨_, _, lx.bool, ly.bool, k _ (.bl _)⟩
      · cases h)
theorem op_is2 : OpR X (compareOp .Is) (fun x y H Q => (y = .non ∧ Q (.bl (decide (x = .non))) H) ∨ rIsB x y H Q) := OpR.or op_isN op_isBl
theorem op_isnot2 : OpR X (compareOp .IsNot) (fun x y H Q => (y = .non ∧ Q (.bl (!decide (x = .non))) H) ∨ rNotB x y H Q) := OpR.or op_notN op_notBl
end
end DL
namespace DL
open PySem PySem.Spec PyProof.Rows L2

/-! ### argument lists, displays -/
def a_nil : Fa := fun e => some ([], e)
def a_cons (fa : Fe) (fr : Fa) : Fa := fun e => match fa e with
  | some (r, e1) => (match fr e1 with
    | some (rs, e2) => some (frzR r :: rs, e2)
    | none => none)
  | none => none
section
variable {X : Cx} {a : Expr} {es : List Expr} {fa : Fe} {fr : Fa} {pos : Pos}
theorem ad_nil : AD X [] a_nil := ⟨_, pa_nil, fun m E G0 G e σ H rs e' Q R q P => by
  cases q
  exact P [] G H R Stp.refl True.intro⟩
theorem ad_cons (ha : ED X a fa) (hr : AD X es fr) (hs : starEach (a :: es) X.env = (false, eval a X.env) :: starEach es X.env := by rfl) : AD X (a :: es) (a_cons fa fr) := by
  obtain ⟨t, p, k⟩ := ha
  obtain ⟨t2, p2, k2⟩ := hr
  refine ⟨_, pa_cons p p2 hs, fun m E G0 G e σ H rs e' Q R q P => ?_⟩
  unfold a_cons at q
  cases h1 : fa e with
  | none => simp only [h1] at q; cases q
  | some z =>
    obtain ⟨r, e1⟩ := z
    simp only [h1] at q
    cases h2 : fr e1 with
    | none => simp only [h2] at q; cases q
    | some z2 =>
      obtain ⟨rs2, e2⟩ := z2
      simp only [h2, Option.some.injEq, Prod.mk.injEq] at q
      obtain ⟨rfl, rfl⟩ := q
      refine k m E G0 G e σ H r e1 _ R h1 fun v G1 H1 R1 S1 V1 N1 => ?_
      obtain ⟨G1', R1', S1', s1, V1'⟩ := R1.freeze S1 V1 N1
      refine k2 m E G0 G1' e1 σ H1 rs2 e2 _ R1' h2 fun vs G2 H2 R2 S2 V2 => ?_
      exact P (v :: vs) G2 H2 R2 (S1'.trans S2) ⟨V1'.stp S2, V2⟩
end
/-- all arguments, as data -/
def argsD (fa : Fa) : Ev → Option (List PyData × Ev) := fun e => match fa e with
  | some (rs, e1) => (match lookAll e1 rs with
    | some ds => some (ds, e1)
    | none => none)
  | none => none
theorem argsD_ok {fa : Fa} {e e' : Ev} {ds : List PyData} (q : argsD fa e = some (ds, e')) : ∃ rs, fa e = some (rs, e') ∧ lookAll e' rs = some ds := by
  unfold argsD at q
  split at q
  · rename_i rs e1 h1
    split at q
    · rename_i ds2 h2
      cases q
      exact ⟨rs, h1, h2⟩
    · cases q
  · cases q
/-- every one of them is frozen data (no list of one's own) -/
def imR : Rs → Option PyData
  | .im d => some d
  | _ => none
def imAll : List Rs → Option (List PyData)
  | [] => some []
  | r :: rs => match imR r with
    | some d => (match imAll rs with
      | some ds => some (d :: ds)
      | none => none)
    | none => none
theorem vr_imAll {K : PySem.W.Frag} {E : Ef} {G H : Hp} {σ : St} {e : Ev} : ∀ {vs : List V} {rs : List Rs} {ds : List PyData}, VrAll K E G H σ e vs rs → imAll rs = some ds → DpAll K G vs ds
  | [], [], ds, _, q => by
    cases q
    exact .nil
  | v :: vs, r :: rs, ds, h, q => by
    simp only [imAll] at q
    cases r with
    | im d =>
      simp only [imR] at q
      cases h2 : imAll rs with
      | none => simp only [h2] at q; cases q
      | some ds2 =>
        simp only [h2, Option.some.injEq] at q
        subst q
        exact .cons h.1 (vr_imAll h.2 h2)
    | ac _ => simp only [imR] at q; cases q
    | br _ => simp only [imR] at q; cases q
  | [], _ :: _, _, h, _ => h.elim
  | _ :: _, [], _, h, _ => h.elim
def argsI (fa : Fa) : Ev → Option (List PyData × Ev) := fun e => match fa e with
  | some (rs, e1) => (match imAll rs with
    | some ds => some (ds, e1)
    | none => none)
  | none => none
theorem argsI_ok {fa : Fa} {e e' : Ev} {ds : List PyData} (q : argsI fa e = some (ds, e')) : ∃ rs, fa e = some (rs, e') ∧ imAll rs = some ds := by
  unfold argsI at q
  split at q
  · rename_i rs e1 h1
    split at q
    · rename_i ds2 h2
      cases q
      exact ⟨rs, h1, h2⟩
    · cases q
  · cases q
def x_tup (fa : Fa) : Fe := fun e => match argsI fa e with
  | some (ds, e1) => if okLen ds.length = true then some (.im (.tuple ds), e1) else none
  | none => none
def x_lst (fa : Fa) : Fe := fun e => match argsI fa e with
  | some (ds, e1) => if okLen ds.length = true then some (.ac ds, e1) else none
  | none => none
section
variable {X : Cx} {es : List Expr} {fa : Fa} {pos : Pos}
theorem ed_tup {n} (h : AD X es fa) : ED X (.Tuple es n pos) (x_tup fa) := by
  obtain ⟨t, p, k⟩ := h
  refine ⟨_, pe_tup p, fun m E G0 G e σ H r e' Q R q P => ?_⟩
  unfold x_tup at q
  cases h1 : argsI fa e with
  | none => simp only [h1] at q; cases q
  | some z =>
    obtain ⟨ds, e1⟩ := z
    simp only [h1] at q
    by_cases z : okLen ds.length = true
    · rw [if_pos z] at q
      simp only [Option.some.injEq, Prod.mk.injEq] at q
      obtain ⟨rfl, rfl⟩ := q
      obtain ⟨rs, q1, q2⟩ := argsI_ok h1
      refine k m E G0 G e σ H rs e1 _ R q1 fun vs G1 H1 R1 S1 V1 => ?_
      have dv := vr_imAll V1 q2
      refine ⟨by rw [dpAll_len dv]; exact okLen_ok z, fun p hp => ?_⟩
      obtain ⟨R', S', D'⟩ := R1.newT hp dv
      exact P _ _ _ R' (S1.trans S') D' True.intro
    · rw [if_neg z] at q
      cases q
theorem ed_lst (h : AD X es fa) : ED X (.List es pos) (x_lst fa) := by
  obtain ⟨t, p, k⟩ := h
  refine ⟨_, pe_lst p, fun m E G0 G e σ H r e' Q R q P => ?_⟩
  unfold x_lst at q
  cases h1 : argsI fa e with
  | none => simp only [h1] at q; cases q
  | some z =>
    obtain ⟨ds, e1⟩ := z
    simp only [h1] at q
    by_cases z : okLen ds.length = true
    · rw [if_pos z] at q
      simp only [Option.some.injEq, Prod.mk.injEq] at q
      obtain ⟨rfl, rfl⟩ := q
      obtain ⟨rs, q1, q2⟩ := argsI_ok h1
      refine k m E G0 G e σ H rs e1 _ R q1 fun vs G1 H1 R1 S1 V1 => ?_
      have dv := vr_imAll V1 q2
      refine ⟨by rw [dpAll_len dv]; exact okLen_ok z, fun p hp => ?_⟩
      obtain ⟨R', S', V', N'⟩ := R1.newL hp dv
      exact P _ _ _ R' (S1.trans S') V' (nw_back S1 _ N')
    · rw [if_neg z] at q
      cases q
/-- [..] * n -/
def x_rep (fa : Fa) (fb : Fe) : Fe := fun e => match argsI fa e with
  | some (ds, e1) => (match fb e1 with
    | some (.im (.int k), e2) => if (okLen ds.length && (decide (-9223372036854775808 ≤ k ∧ k < 9223372036854775808) && okLen (ds.length * k.toNat))) = true then some (.ac (List.replicate k.toNat ds).flatten, e2) else none
    | _ => none)
  | none => none
theorem ed_rep {b : Expr} {fb : Fe} {p1 : Pos} (h : AD X es fa) (hb : ED X b fb) : ED X (.BinOp (.List es p1) .Mult b pos) (x_rep fa fb) := by
  obtain ⟨t, p, k⟩ := h
  obtain ⟨t2, p2, k2⟩ := hb
  refine ⟨_, pe_op op_rep (pe_lst p) p2, fun m E G0 G e σ H r e' Q R q P => ?_⟩
  unfold x_rep at q
  cases h1 : argsI fa e with
  | none => simp only [h1] at q; cases q
  | some z =>
    obtain ⟨ds, e1⟩ := z
    simp only [h1] at q
    split at q
    · rename_i kk e2 h2
      by_cases z : (okLen ds.length && (decide (-9223372036854775808 ≤ kk ∧ kk < 9223372036854775808) && okLen (ds.length * kk.toNat))) = true
      · rw [if_pos z] at q
        simp only [Option.some.injEq, Prod.mk.injEq] at q
        obtain ⟨rfl, rfl⟩ := q
        obtain ⟨z1, z2⟩ := Bool.and_eq_true_iff.mp z
        obtain ⟨z2, z3⟩ := Bool.and_eq_true_iff.mp z2
        have z2 := of_decide_eq_true z2
        obtain ⟨rs, q1, q2⟩ := argsI_ok h1
        refine k m E G0 G e σ H rs e1 _ R q1 fun vs G1 H1 R1 S1 V1 => ?_
        have dv := vr_imAll V1 q2
        refine ⟨by rw [dpAll_len dv]; exact okLen_ok z1, fun p hp => ?_⟩
        obtain ⟨R', S', V', N'⟩ := R1.newL hp dv
        refine k2 m E G0 G1 e1 σ _ _ e2 _ R' h2 fun u G2 H2 R2 S2 V2 _ => ?_
        cases V2
        obtain ⟨p', ws', ep, _, g2, h3, d3, _⟩ := V'.stp S2
        cases ep
        refine ⟨_, kk, ws', rfl, rfl, h3, z2.1, z2.2, by rw [dpAll_len d3]; exact okLen_ok z3, fun p2 hp2 => ?_⟩
        obtain ⟨R3, S3, V3, N3⟩ := R2.newL hp2 (dpAll_rep d3 kk.toNat)
        exact P _ _ _ R3 (S1.trans (S'.trans (S2.trans S3))) V3 (nw_back (S1.trans (S'.trans S2)) _ N3)
      · rw [if_neg z] at q
        cases q
    · cases q
end

/-! ### items, slices -/
def p_ix : PyData → PyData → Option Rs := fun a b => match seqD a, b with
  | some ds, .int i => (atI ds i).map Rs.im
  | _, _ => none
theorem dpAll_atI {K : PySem.W.Frag} {G : Hp} {vs : List V} {ds : List PyData} {i : Int} {d : PyData} (h : DpAll K G vs ds) (q : atI ds i = some d) : ∃ v, atI vs i = some v ∧ Dp K G v d := by
  have e : atI vs i = (ixN vs.length i).bind fun j => vs[j]? := rfl
  rw [e, dpAll_len h]
  have q : ((ixN ds.length i).bind fun j => ds[j]?) = some d := q
  cases z : ixN ds.length i with
  | none => rw [z] at q; cases q
  | some j =>
    rw [z] at q
    exact dpAll_get h q
def rIx2 (K : PySem.W.Frag) : R2 := fun x y H Q => rIxL K x y H Q ∨ rIxT K x y H Q
theorem vb_ix {K : PySem.W.Frag} : VB K (rIx2 K) p_ix := by
  intro m E G0 G e σ H x y dx dy rr Q R lx ly q P
  unfold p_ix at q
  split at q
  · rename_i ds i h
    cases z : atI ds i with
    | none => rw [z] at q; cases q
    | some d =>
      rw [z] at q
      cases q
      unfold seqD at h
      split at h
      · cases h
        obtain ⟨p, ws, ex, s1, k⟩ := lx.list R.gh
        obtain ⟨v, e1, e2⟩ := dpAll_atI k z
        exact .inl ⟨p, ws, i, v, ex, ly.int, s1, e1, P.now R e2 True.intro⟩
      · cases h
        obtain ⟨p, ws, ex, s1, k⟩ := lx.tup R.gh
        obtain ⟨v, e1, e2⟩ := dpAll_atI k z
        exact .inr ⟨p, ws, i, v, ex, ly.int, s1, e1, P.now R e2 True.intro⟩
      · cases h
  · cases q
abbrev x_ix (fa fb : Fe) : Fe := x_bin p_ix fa fb
section
variable {X : Cx} {a b : Expr} {fa fb : Fe} {pos : Pos}
theorem ed_ix (ha : ED X a fa) (hb : ED X b fb) (hs : PlainIx b := by intro _ _; rfl) : ED X (.Subscript a b pos) (x_ix fa fb) := by
  obtain ⟨ta, tb, pa, pb, k2⟩ := two_ok ha hb
  exact ⟨_, pe_ix (ix_list.or ix_tup) pa pb hs, bin_ok (r := rIx2 X.K) vb_ix k2⟩
end
abbrev Fo := Ev → Option (Option Int × Ev)
structure OD (X : Cx) (o : Option Expr) (f : Fo) : Prop where
  ex : ∃ t, PO X o t ∧ ∀ (m : Option Addr) (E : Ef) (G0 G : Hp) (e : Ev) (σ : St) (H : Hp) (i : Option Int) (e' : Ev) (Q : Option Int → Hp → Prop),
    Rl X.K m E G0 G e σ H → f e = some (i, e') → (∀ G' H', Rl X.K m E G0 G' e' σ H' → Stp σ G H e G' H' e' → Q i H') → t σ H Q
def o_no : Fo := fun e => some (none, e)
def o_at (f : Fe) : Fo := fun e => match f e with
  | some (.im (.int i), e1) => some (some i, e1)
  | _ => none
def cutD {α : Type} (ds : List α) (lo hi : Option Int) : List α := (ds.drop (HT.sIx ds.length 0 lo)).take (HT.sIx ds.length ds.length hi - HT.sIx ds.length 0 lo)
def sliced (lo hi : Option Int) : PyData → Option Rs
  | .list ds => some (.ac (cutD ds lo hi))
  | .tuple ds => some (.im (.tuple (cutD ds lo hi)))
  | _ => none
def x_sl (fa : Fe) (fl fh : Fo) : Fe := fun e => match fa e with
  | some (r, e1) => (match fl e1 with
    | some (lo, e2) => (match fh e2 with
      | some (hi, e3) => (match lookR e3 (frzR r) with
        | some d => (match sliced lo hi d with
          | some r2 => some (r2, e3)
          | none => none)
        | none => none)
      | none => none)
    | none => none)
  | none => none
theorem dpAll_cut {K : PySem.W.Frag} {G : Hp} {vs : List V} {ds : List PyData} {lo hi : Option Int} (h : DpAll K G vs ds) : DpAll K G (cutV vs lo hi) (cutD ds lo hi) := by
  unfold cutV cutD
  rw [dpAll_len h]
  exact dpAll_take _ (dpAll_drop _ h)
theorem cutD_all {α : Type} {ds : List α} {lo hi : Option Int} (h1 : HT.sIx ds.length 0 lo = 0) (h2 : HT.sIx ds.length ds.length hi = ds.length) : cutD ds lo hi = ds := by
  unfold cutD
  rw [h1, h2]
  exact List.take_length
section
variable {X : Cx} {a b : Expr} {fa fb : Fe} {fl fh : Fo} {lo hi : Option Expr} {pos p2 : Pos}
theorem od_no : OD X none o_no := ⟨_, po_none, fun m E G0 G e σ H i e' Q R q P => by
  cases q
  exact P G H R Stp.refl⟩
theorem od_at (h : ED X a fa) : OD X (some a) (o_at fa) := by
  obtain ⟨t, p, k⟩ := h
  refine ⟨_, po_some p, fun m E G0 G e σ H i e' Q R q P => ?_⟩
  unfold o_at at q
  split at q
  · rename_i j e1 h1
    simp only [Option.some.injEq, Prod.mk.injEq] at q
    obtain ⟨rfl, rfl⟩ := q
    refine k m E G0 G e σ H _ e1 _ R h1 fun v G1 H1 R1 S1 V1 _ => ?_
    cases V1
    exact ⟨j, rfl, P G1 H1 R1 S1⟩
  · cases q
theorem ed_sl (ha : ED X a fa) (hl : OD X lo fl) (hh : OD X hi fh) : ED X (.Subscript a (.Slice lo hi none p2) pos) (x_sl fa fl fh) := by
  obtain ⟨t, p, k⟩ := ha
  obtain ⟨t1, q1, k1⟩ := hl
  obtain ⟨t2, q2, k2⟩ := hh
  refine ⟨_, pe_slice (sl_list.or sl_tupA) p q1 q2, fun m E G0 G e σ H r e' Q R q P => ?_⟩
  unfold x_sl at q
  cases h1 : fa e with
  | none => simp only [h1] at q; cases q
  | some z =>
    obtain ⟨r0, e1⟩ := z
    simp only [h1] at q
    cases h2 : fl e1 with
    | none => simp only [h2] at q; cases q
    | some z =>
      obtain ⟨i, e2⟩ := z
      simp only [h2] at q
      cases h3 : fh e2 with
      | none => simp only [h3] at q; cases q
      | some z =>
        obtain ⟨j, e3⟩ := z
        simp only [h3] at q
        cases h4 : lookR e3 (frzR r0) with
        | none => simp only [h4] at q; cases q
        | some d =>
          simp only [h4] at q
          cases h5 : sliced i j d with
          | none => simp only [h5] at q; cases q
          | some r2 =>
            simp only [h5, Option.some.injEq, Prod.mk.injEq] at q
            obtain ⟨rfl, rfl⟩ := q
            refine k m E G0 G e σ H r0 e1 _ R h1 fun v G1 H1 R1 S1 V1 N1 => ?_
            obtain ⟨G1', R1', S1', s1, V1'⟩ := R1.freeze S1 V1 N1
            refine k1 m E G0 G1' e1 σ H1 i e2 _ R1' h2 fun G2 H2 R2 S2 => ?_
            refine k2 m E G0 G2 e2 σ H2 j e3 _ R2 h3 fun G3 H3 R3 S3 => ?_
            have L := R3.look ((V1'.stp S2).stp S3) h4
            have S := S1'.trans (S2.trans S3)
            unfold sliced at h5
            split at h5
            · cases h5
              obtain ⟨p', ws, ex, s2, dk⟩ := L.list R3.gh
              refine .inl ⟨p', ws, ex, s2, fun p hp => ?_⟩
              obtain ⟨R', S', V', N'⟩ := R3.newL hp (dpAll_cut dk)
              exact P _ _ _ R' (S.trans S') V' (nw_back S _ N')
            · cases h5
              rename_i ds
              obtain ⟨p', ws, ex, s2, dk⟩ := L.tup R3.gh
              refine .inr ⟨p', ws, ex, s2, fun hw => ?_, fun _ p hp => ?_⟩
              · rw [dpAll_len dk] at hw
                rw [cutD_all hw.1 hw.2] at P
                rcases L with L | ⟨_, _, _, _, z, _⟩
                · rw [← ex]
                  exact P _ _ _ R3 S L True.intro
                · cases z
              · obtain ⟨R', S', D'⟩ := R3.newT hp (dpAll_cut dk)
                exact P _ _ _ R' (S.trans S') D' True.intro
            · cases h5
/-- xs[::-1], xs a list -/
def x_rev (fa : Fe) : Fe := fun e => match fa e with
  | some (r, e1) => (match lookR e1 (frzR r) with
    | some (.list ds) => some (.ac ds.reverse, e1)
    | _ => none)
  | none => none
theorem ed_rev {n : Nat} {p1 p2 p3 : Pos} (ha : ED X a fa) : ED X (.Subscript a (.Slice none none (some (.UnaryOp .USub (.Constant (.int 1) n p1) p2)) p3) pos) (x_rev fa) := by
  obtain ⟨t, p, k⟩ := ha
  refine ⟨_, pe_revL p, fun m E G0 G e σ H r e' Q R q P => ?_⟩
  unfold x_rev at q
  cases h1 : fa e with
  | none => simp only [h1] at q; cases q
  | some z =>
    obtain ⟨r0, e1⟩ := z
    simp only [h1] at q
    split at q
    · rename_i ds h4
      cases q
      refine k m E G0 G e σ H r0 _ _ R h1 fun v G1 H1 R1 S1 V1 N1 => ?_
      obtain ⟨G1', R1', S1', s1, V1'⟩ := R1.freeze S1 V1 N1
      obtain ⟨p', ws, ex, s2, dk⟩ := (R1'.look V1' h4).list R1'.gh
      refine ⟨p', ws, ex, s2, fun p hp => ?_⟩
      obtain ⟨R', S', V', N'⟩ := R1'.newL hp (dpAll_rev dk)
      exact P _ _ _ R' (S1'.trans S') V' (nw_back S1' _ N')
    · cases q
/-- -n -/
def x_neg (fa : Fe) : Fe := fun e => match fa e with
  | some (.im (.int i), e1) => some (.im (.int (-i)), e1)
  | _ => none
theorem ed_neg (ha : ED X a fa) : ED X (.UnaryOp .USub a pos) (x_neg fa) := by
  obtain ⟨t, p, k⟩ := ha
  refine ⟨_, pe_un un_neg p, fun m E G0 G e σ H r e' Q R q P => ?_⟩
  unfold x_neg at q
  split at q
  · rename_i i e1 h1
    cases q
    refine k m E G0 G e σ H _ _ _ R h1 fun v G1 H1 R1 S1 V1 _ => ?_
    cases V1
    exact ⟨i, rfl, P _ _ _ R1 S1 (.int _) True.intro⟩
  · cases q
end

/-! ### built-ins by name -/
/-- an n-place rule by values, over data -/
def VC (K : PySem.W.Frag) (r : List V → Hp → VK → Prop) (φ : List PyData → Option Rs) : Prop :=
  ∀ (m : Option Addr) (E : Ef) (G0 G : Hp) (e : Ev) (σ : St) (H : Hp) (vs : List V) (ds : List PyData) (rr : Rs) (Q : VK), Rl K m E G0 G e σ H → LvAll K G H vs ds → φ ds = some rr → Po K m E G0 σ G H e rr e Q → r vs H Q
def orC {α γ : Type} (φ ψ : α → Option γ) : α → Option γ := fun a => match φ a with
  | some r => some r
  | none => ψ a
theorem VC.or {K : PySem.W.Frag} {r r' : List V → Hp → VK → Prop} {φ ψ : List PyData → Option Rs} (h : VC K r φ) (h' : VC K r' ψ) : VC K (fun vs H Q => r vs H Q ∨ r' vs H Q) (orC φ ψ) := by
  intro m E G0 G e σ H vs ds rr Q R l q P
  unfold orC at q
  cases h1 : φ ds with
  | some r1 =>
    simp only [h1, Option.some.injEq] at q
    subst q
    exact .inl (h m E G0 G e σ H vs ds _ Q R l h1 P)
  | none =>
    simp only [h1] at q
    exact .inr (h' m E G0 G e σ H vs ds rr Q R l q P)
def x_cb (φ : List PyData → Option Rs) (fa : Fa) : Fe := fun e => match argsD fa e with
  | some (ds, e1) => (match φ ds with
    | some r => some (r, e1)
    | none => none)
  | none => none
section
variable {X : Cx} {a : Expr} {es : List Expr} {fa : Fa} {pos p : Pos} {x : Str} {id T : String} {r : List V → Hp → VK → Prop} {φ : List PyData → Option Rs}
theorem cb_ok {t : TA} (hv : VC X.K r φ) (k : ∀ (m : Option Addr) (E : Ef) (G0 G : Hp) (e : Ev) (σ : St) (H : Hp) (rs : List Rs) (e' : Ev) (Q : List V → Hp → Prop),
    Rl X.K m E G0 G e σ H → fa e = some (rs, e') → (∀ vs G' H', Rl X.K m E G0 G' e' σ H' → Stp σ G H e G' H' e' → VrAll X.K E G' H' σ e' vs rs → Q vs H') → t σ H Q)
    (m : Option Addr) (E : Ef) (G0 G : Hp) (e : Ev) (σ : St) (H : Hp) (rr : Rs) (e' : Ev) (Q : VK) (R : Rl X.K m E G0 G e σ H) (q : x_cb φ fa e = some (rr, e')) (P : Po X.K m E G0 σ G H e rr e' Q) : tCB r t σ H Q := by
  unfold x_cb at q
  cases h1 : argsD fa e with
  | none => simp only [h1] at q; cases q
  | some z =>
    obtain ⟨ds, e1⟩ := z
    simp only [h1] at q
    cases h2 : φ ds with
    | none => simp only [h2] at q; cases q
    | some r2 =>
      simp only [h2, Option.some.injEq, Prod.mk.injEq] at q
      obtain ⟨rfl, rfl⟩ := q
      obtain ⟨rs, q1, q2⟩ := argsD_ok h1
      exact k m E G0 G e σ H rs e1 _ R q1 fun vs G1 H1 R1 S1 V1 => hv m E G0 G1 e1 σ H1 vs ds _ Q R1 (R1.lookAll V1 q2) h2 (P.aft S1)
theorem ed_cb (hv : VC X.K r φ) (hc : CallR X (.builtin id) r) (hm : X.mg x = none) (h : AD X (a :: es) fa) (hb : bootBuiltins x = some (.builtin id) := by decide +kernel) (hg : Gl X x := by rfl) (hn : x ≠ "__name__" := by decide) (hdb : (x == ("__debug__" : Str)) = false := by decide)
    (he : starEach (a :: es) X.env = (false, eval a X.env) :: starEach es X.env := by rfl) (hpl : (backTo pos (starEach es X.env)).any (·.1) = false := by rfl) : ED X (.Call (.Name x p) (a :: es) [] pos) (x_cb φ fa) := by
  obtain ⟨t, pa, k⟩ := h
  exact ⟨_, pe_callB hc hg hm hb pa hn hdb he hpl, cb_ok hv k⟩
theorem ed_ct (hv : VC X.K r φ) (hc : CallR X (.type T) r) (hm : X.mg x = none) (h : AD X (a :: es) fa) (hb : bootBuiltins x = some (.type T) := by decide +kernel) (hg : Gl X x := by rfl) (hn : x ≠ "__name__" := by decide) (hdb : (x == ("__debug__" : Str)) = false := by decide)
    (he : starEach (a :: es) X.env = (false, eval a X.env) :: starEach es X.env := by rfl) (hpl : (backTo pos (starEach es X.env)).any (·.1) = false := by rfl) : ED X (.Call (.Name x p) (a :: es) [] pos) (x_cb φ fa) := by
  obtain ⟨t, pa, k⟩ := h
  exact ⟨_, pe_callTy hc hg hm hb pa hn hdb he hpl, cb_ok hv k⟩
end
theorem lv1 {K : PySem.W.Frag} {G H : Hp} {vs : List V} {d : PyData} (h : LvAll K G H vs [d]) : ∃ v, vs = [v] ∧ Lv K G H v d := by
  match vs, h with
  | [v], h => exact ⟨v, rfl, h.1⟩
  | _ :: _ :: _, h => exact h.2.elim
theorem lv2 {K : PySem.W.Frag} {G H : Hp} {vs : List V} {c d : PyData} (h : LvAll K G H vs [c, d]) : ∃ u v, vs = [u, v] ∧ Lv K G H u c ∧ Lv K G H v d := by
  match vs, h with
  | [u, v], h => exact ⟨u, v, rfl, h.1, h.2.1⟩
  | _ :: _ :: _ :: _, h => exact h.2.2.elim
  | [_], h => exact h.2.elim
def c_len : List PyData → Option Rs
  | [.list ds] => some (.im (.int ds.length))
  | [.tuple ds] => some (.im (.int ds.length))
  | _ => none
def c_abs : List PyData → Option Rs
  | [.int i] => some (.im (.int (if i < 0 then -i else i)))
  | _ => none
def c_max2 : List PyData → Option Rs
  | [.int i, .int j] => some (.im (.int (if j > i then j else i)))
  | _ => none
def c_min2 : List PyData → Option Rs
  | [.int i, .int j] => some (.im (.int (if j < i then j else i)))
  | _ => none
def c_int : List PyData → Option Rs
  | [.int i] => some (.im (.int i))
  | [.bool k] => some (.im (.int (if k = true then 1 else 0)))
  | _ => none
def c_list : List PyData → Option Rs
  | [.list ds] => some (.ac ds)
  | [.tuple ds] => some (.ac ds)
  | _ => none
def c_tuple : List PyData → Option Rs
  | [.list ds] => some (.im (.tuple ds))
  | [.tuple ds] => some (.im (.tuple ds))
  | _ => none
section
variable {K : PySem.W.Frag} {X : Cx}
theorem vc_len : VC K (fun xs H Q => ∃ p ys, xs = [.ref p] ∧ (SqL K H p ys ∨ SqT K H p ys) ∧ Q (.int ys.length) H) c_len := by
  intro m E G0 G e σ H vs ds rr Q R l q P
  unfold c_len at q
  split at q
  · cases q
    obtain ⟨v, rfl, lv⟩ := lv1 l
    obtain ⟨p, ws, rfl, s1, k⟩ := lv.list R.gh
    refine ⟨p, ws, rfl, .inl s1, ?_⟩
    rw [dpAll_len k]
    exact P.now R (.int _) True.intro
  · cases q
    obtain ⟨v, rfl, lv⟩ := lv1 l
    obtain ⟨p, ws, rfl, s1, k⟩ := lv.tup R.gh
    refine ⟨p, ws, rfl, .inr s1, ?_⟩
    rw [dpAll_len k]
    exact P.now R (.int _) True.intro
  · cases q
theorem vc_abs : VC K (fun xs H Q => ∃ i, xs = [.int i] ∧ Q (.int (if i < 0 then -i else i)) H) c_abs := by
  intro m E G0 G e σ H vs ds rr Q R l q P
  unfold c_abs at q
  split at q
  · cases q
    obtain ⟨v, rfl, lv⟩ := lv1 l
    exact ⟨_, by rw [lv.int], P.now R (.int _) True.intro⟩
  · cases q
theorem vc_max2 : VC K (fun xs H Q => ∃ i j, xs = [.int i, .int j] ∧ Q (.int (if j > i then j else i)) H) c_max2 := by
  intro m E G0 G e σ H vs ds rr Q R l q P
  unfold c_max2 at q
  split at q
  · cases q
    obtain ⟨u, v, rfl, l1, l2⟩ := lv2 l
    exact ⟨_, _, by rw [l1.int, l2.int], P.now R (.int _) True.intro⟩
  · cases q
theorem vc_min2 : VC K (fun xs H Q => ∃ i j, xs = [.int i, .int j] ∧ Q (.int (if j < i then j else i)) H) c_min2 := by
  intro m E G0 G e σ H vs ds rr Q R l q P
  unfold c_min2 at q
  split at q
  · cases q
    obtain ⟨u, v, rfl, l1, l2⟩ := lv2 l
    exact ⟨_, _, by rw [l1.int, l2.int], P.now R (.int _) True.intro⟩
  · cases q
theorem vc_int : VC K (fun xs H Q => (∃ i, xs = [.int i] ∧ Q (.int i) H) ∨ ∃ k, xs = [.bl k] ∧ Q (.int (if k then 1 else 0)) H) c_int := by
  intro m E G0 G e σ H vs ds rr Q R l q P
  unfold c_int at q
  split at q
  · cases q
    obtain ⟨v, rfl, lv⟩ := lv1 l
    exact .inl ⟨_, by rw [lv.int], P.now R (.int _) True.intro⟩
  · cases q
    obtain ⟨v, rfl, lv⟩ := lv1 l
    exact .inr ⟨_, by rw [lv.bool], P.now R (.int _) True.intro⟩
  · cases q
theorem vc_list : VC K (fun xs H Q => ∃ p ys, xs = [.ref p] ∧ (SqL K H p ys ∨ SqT K H p ys) ∧ ∀ l, H l = none → Q (.ref l) (upd H l (.lst ys))) c_list := by
  intro m E G0 G e σ H vs ds rr Q R l q P
  unfold c_list at q
  split at q
  · cases q
    obtain ⟨v, rfl, lv⟩ := lv1 l
    obtain ⟨p, ws, rfl, s1, k⟩ := lv.list R.gh
    refine ⟨p, ws, rfl, .inl s1, fun p2 hp => ?_⟩
    obtain ⟨R', S', V', N'⟩ := R.newL hp k
    exact P _ _ _ R' S' V' N'
  · cases q
    obtain ⟨v, rfl, lv⟩ := lv1 l
    obtain ⟨p, ws, rfl, s1, k⟩ := lv.tup R.gh
    refine ⟨p, ws, rfl, .inr s1, fun p2 hp => ?_⟩
    obtain ⟨R', S', V', N'⟩ := R.newL hp k
    exact P _ _ _ R' S' V' N'
  · cases q
theorem vc_tuple : VC K (fun xs H Q => ∃ p ys, xs = [.ref p] ∧ ((SqL K H p ys ∧ ∀ l, H l = none → Q (.ref l) (upd H l (.tup ys))) ∨ (SqT K H p ys ∧ Q (.ref p) H))) c_tuple := by
  intro m E G0 G e σ H vs ds rr Q R l q P
  unfold c_tuple at q
  split at q
  · cases q
    obtain ⟨v, rfl, lv⟩ := lv1 l
    obtain ⟨p, ws, rfl, s1, k⟩ := lv.list R.gh
    refine ⟨p, ws, rfl, .inl ⟨s1, fun p2 hp => ?_⟩⟩
    obtain ⟨R', S', D'⟩ := R.newT hp k
    exact P _ _ _ R' S' D' True.intro
  · cases q
    obtain ⟨v, rfl, lv⟩ := lv1 l
    obtain ⟨p, ws, rfl, s1, k⟩ := lv.tup R.gh
    refine ⟨p, ws, rfl, .inr ⟨s1, ?_⟩⟩
    rcases lv with lv | ⟨_, _, _, _, z, _⟩
    · exact P.now R lv True.intro
    · cases z
  · cases q
end
end DL
namespace DL
open PySem PySem.Spec PyProof.Rows L2

/-! ### isinstance of a built-in class -/
inductive Ty where
  | int | bool | str | tuple | list
def Ty.nm : Ty → String
  | .int => "int"
  | .bool => "bool"
  | .str => "str"
  | .tuple => "tuple"
  | .list => "list"
def isD : Ty → PyData → Option Bool
  | _, .dict _ => none
  | .int, .int _ => some true
  | .int, .bool _ => some true
  | .bool, .bool _ => some true
  | .str, .str _ => some true
  | .tuple, .tuple _ => some true
  | .list, .list _ => some true
  | _, _ => some false
def tyN : PyData → String
  | .none => "NoneType"
  | .bool _ => "bool"
  | .int _ => "int"
  | .str _ => "str"
  | .list _ => "list"
  | .tuple _ => "tuple"
  | .dict _ => "dict"
theorem isD_ok {T : Ty} {d : PyData} {b : Bool} (h : isD T d = some b) : kitB (tyN d) T.nm = some b := by
  cases d <;> cases T <;> first
    | (cases h; done)
    | (cases h; simp only [tyN, Ty.nm]; decide +kernel)
theorem lv_ty {K : PySem.W.Frag} {G H : Hp} {v : V} {d : PyData} (s : Same G H) (h : Lv K G H v d) : TyX K H v (.type (tyN d)) := by
  have h := h.dp s
  cases h with
  | non => exact .base .non
  | bl b => exact .base (.bl b)
  | int i => exact .base (.int i)
  | str x => exact .base (.str x)
  | lst h1 _ =>
    rcases h1 with (h2 | ⟨o, h2⟩) | ⟨o, its, n, hk, hc, _⟩
    · exact .base (.lst h2)
    · exact .base (.frz h2)
    · exact .kList hk hc
  | tup h1 _ =>
    rcases h1 with (h2 | ⟨o, h2⟩) | ⟨o, its, n, hk, hc, _⟩
    · exact .base (.tup h2)
    · exact .fTuple h2
    · exact .kTuple hk hc
def x_isi (T : Ty) (f : Fe) : Fe := fun e => match f e with
  | some (r, e1) => (match lookR e1 (frzR r) with
    | some d => (match isD T d with
      | some b => some (.im (.bool b), e1)
      | none => none)
    | none => none)
  | none => none
section
variable {X : Cx} {a : Expr} {fa : Fe} {pos p p2 : Pos}
theorem ed_isi (T : Ty) (ha : ED X a fa) {y : Str} (hm : X.mg "isinstance" = none) (hmT : X.mg y = none) (hy : y = Str.ofString T.nm := by rfl) (hb : bootBuiltins y = some (.type T.nm) := by decide +kernel) (hg : Gl X "isinstance" := by rfl) (hgT : Gl X y := by rfl)
    (hny : y ≠ "__name__" := by decide) (hdy : (y == ("__debug__" : Str)) = false := by decide)
    (h1 : starEach [.Name y p2] X.env = (false, eval (.Name y p2) X.env) :: starEach [] X.env := by rfl)
    (he : starEach [a, .Name y p2] X.env = (false, eval a X.env) :: starEach [.Name y p2] X.env := by rfl) (hpl : (backTo pos (starEach [.Name y p2] X.env)).any (·.1) = false := by rfl) :
    ED X (.Call (.Name "isinstance" p) [a, .Name y p2] [] pos) (x_isi T fa) := by
  obtain ⟨t, pa, k⟩ := ha
  refine ⟨_, pe_callB call_isi hg hm (by decide +kernel) (pa_cons pa (pa_cons (pe_bltn (v := .ty T.nm) hgT hmT hb rfl hny hdy) pa_nil h1) he) (by decide) (by decide) he hpl, fun m E G0 G e σ H r e' Q R q P => ?_⟩
  unfold x_isi at q
  cases h1 : fa e with
  | none => simp only [h1] at q; cases q
  | some z =>
    obtain ⟨r0, e1⟩ := z
    simp only [h1] at q
    cases h4 : lookR e1 (frzR r0) with
    | none => simp only [h4] at q; cases q
    | some d =>
      simp only [h4] at q
      cases h5 : isD T d with
      | none => simp only [h5] at q; cases q
      | some b =>
        simp only [h5, Option.some.injEq, Prod.mk.injEq] at q
        obtain ⟨rfl, rfl⟩ := q
        refine k m E G0 G e σ H r0 e1 _ R h1 fun v G1 H1 R1 S1 V1 N1 => ?_
        obtain ⟨G1', R1', S1', s1, V1'⟩ := R1.freeze S1 V1 N1
        have L := R1'.look V1' h4
        exact ⟨v, .ty T.nm, .type (tyN d), .type T.nm, b, rfl, .ty _, lv_ty R1'.gh L, kit_ty (isD_ok h5), P _ _ _ R1' S1' (.bl _) True.intro⟩
end

/-! ### lists of ints, of bools -/
def unI : List PyData → Option (List Int)
  | [] => some []
  | .int i :: ds => (unI ds).map (i :: ·)
  | _ :: _ => none
def unB : List PyData → Option (List Bool)
  | [] => some []
  | .bool b :: ds => (unB ds).map (b :: ·)
  | _ :: _ => none
theorem unI_ok : ∀ {ds : List PyData} {ns : List Int}, unI ds = some ns → ds = ns.map PyData.int
  | [], ns, h => by
    cases h
    rfl
  | d :: ds, ns, h => by
    cases d with
    | int i =>
      simp only [unI] at h
      cases z : unI ds with
      | none => rw [z] at h; cases h
      | some ms =>
        rw [z] at h
        cases h
        rw [unI_ok z]
        rfl
    | _ => simp only [unI] at h; cases h
theorem unB_ok : ∀ {ds : List PyData} {ns : List Bool}, unB ds = some ns → ds = ns.map PyData.bool
  | [], ns, h => by
    cases h
    rfl
  | d :: ds, ns, h => by
    cases d with
    | bool i =>
      simp only [unB] at h
      cases z : unB ds with
      | none => rw [z] at h; cases h
      | some ms =>
        rw [z] at h
        cases h
        rw [unB_ok z]
        rfl
    | _ => simp only [unB] at h; cases h
theorem unI_map : ∀ ns : List Int, unI (ns.map PyData.int) = some ns
  | [] => rfl
  | n :: ns => by
    show (unI (ns.map PyData.int)).map (n :: ·) = _
    rw [unI_map ns]
    rfl
theorem unB_map : ∀ ns : List Bool, unB (ns.map PyData.bool) = some ns
  | [] => rfl
  | n :: ns => by
    show (unB (ns.map PyData.bool)).map (n :: ·) = _
    rw [unB_map ns]
    rfl
theorem dp_ints {K : PySem.W.Frag} {G : Hp} : ∀ {vs : List V} {ns : List Int}, DpAll K G vs (ns.map PyData.int) → vs = ns.map V.int
  | [], [], _ => rfl
  | [], _ :: _, h => by cases h
  | _ :: _, [], h => by cases h
  | v :: vs, n :: ns, h => by
    cases h with
    | cons h t =>
      cases h
      rw [dp_ints t]
      rfl
theorem dp_bools {K : PySem.W.Frag} {G : Hp} : ∀ {vs : List V} {ns : List Bool}, DpAll K G vs (ns.map PyData.bool) → vs = ns.map V.bl
  | [], [], _ => rfl
  | [], _ :: _, h => by cases h
  | _ :: _, [], h => by cases h
  | v :: vs, n :: ns, h => by
    cases h with
    | cons h t =>
      cases h
      rw [dp_bools t]
      rfl
/-- the greatest, the least of what is there -/
def maxI : List Int → Int
  | [] => 0
  | [a] => a
  | a :: b :: r => max a (maxI (b :: r))
def minI : List Int → Int
  | [] => 0
  | [a] => a
  | a :: b :: r => min a (minI (b :: r))
theorem maxI_uniq : ∀ {ns : List Int} {m : Int}, m ∈ ns → (∀ y, y ∈ ns → y ≤ m) → m = maxI ns
  | [], _, h, _ => by cases h
  | [a], m, h, _ => by simpa [maxI] using h
  | a :: b :: r, m, h, k => by
    show m = max a (maxI (b :: r))
    have ka := k a List.mem_cons_self
    have mem : maxI (b :: r) ∈ (b :: r) := by
      have : ∀ (l : List Int), l ≠ [] → maxI l ∈ l := by
        intro l
        induction l with
        | nil => intro z; exact absurd rfl z
        | cons x l ih =>
          intro _
          cases l with
          | nil => simp [maxI]
          | cons y l =>
            have q := ih (by simp)
            show max x (maxI (y :: l)) ∈ _
            by_cases z : x ≤ maxI (y :: l)
            · rw [show max x (maxI (y :: l)) = maxI (y :: l) by omega]
              exact List.mem_cons_of_mem _ q
            · rw [show max x (maxI (y :: l)) = x by omega]
              exact List.mem_cons_self
      exact this _ (by simp)
    have kb := k _ (List.mem_cons_of_mem _ mem)
    rcases List.mem_cons.mp h with e | h'
    · omega
    · have q := maxI_uniq h' fun y hy => k y (List.mem_cons_of_mem _ hy)
      omega
theorem minI_uniq : ∀ {ns : List Int} {m : Int}, m ∈ ns → (∀ y, y ∈ ns → m ≤ y) → m = minI ns
  | [], _, h, _ => by cases h
  | [a], m, h, _ => by simpa [minI] using h
  | a :: b :: r, m, h, k => by
    show m = min a (minI (b :: r))
    have ka := k a List.mem_cons_self
    have mem : minI (b :: r) ∈ (b :: r) := by
      have : ∀ (l : List Int), l ≠ [] → minI l ∈ l := by
        intro l
        induction l with
        | nil => intro z; exact absurd rfl z
        | cons x l ih =>
          intro _
          cases l with
          | nil => simp [minI]
          | cons y l =>
            have q := ih (by simp)
            show min x (minI (y :: l)) ∈ _
            by_cases z : minI (y :: l) ≤ x
            · rw [show min x (minI (y :: l)) = minI (y :: l) by omega]
              exact List.mem_cons_of_mem _ q
            · rw [show min x (minI (y :: l)) = x by omega]
              exact List.mem_cons_self
      exact this _ (by simp)
    have kb := k _ (List.mem_cons_of_mem _ mem)
    rcases List.mem_cons.mp h with e | h'
    · omega
    · have q := minI_uniq h' fun y hy => k y (List.mem_cons_of_mem _ hy)
      omega
def c_intsL (g : List Int → Option Rs) : List PyData → Option Rs
  | [.list ds] => (match unI ds with
    | some ns => g ns
    | none => none)
  | _ => none
def c_max : List PyData → Option Rs := c_intsL fun ns => if ns.isEmpty = true then none else some (.im (.int (maxI ns)))
def c_min : List PyData → Option Rs := c_intsL fun ns => if ns.isEmpty = true then none else some (.im (.int (minI ns)))
def c_sum : List PyData → Option Rs := c_intsL fun ns => some (.im (.int ns.sum))
def c_all : List PyData → Option Rs
  | [.list ds] => (match unB ds with
    | some bs => some (.im (.bool (bs.all id)))
    | none => none)
  | _ => none
def c_any : List PyData → Option Rs
  | [.list ds] => (match unB ds with
    | some bs => some (.im (.bool (bs.any id)))
    | none => none)
  | _ => none
/-- sorted, ascending, falling -/
def upI (ns : List Int) : List Int := ns.mergeSort fun a b => decide (a ≤ b)
def downI (ns : List Int) : List Int := ns.mergeSort fun a b => decide (b ≤ a)
theorem upI_uniq {ns ms : List Int} (h : ms.Perm ns) (k : ms.Pairwise (· ≤ ·)) : ms = upI ns := by
  have p1 : (upI ns).Perm ns := List.mergeSort_perm ns _
  have s1 : (upI ns).Pairwise (fun a b => decide (a ≤ b) = true) := List.pairwise_mergeSort (fun a b c h1 h2 => by simp at *; omega) (fun a b => by simp; omega) ns
  refine List.Perm.eq_of_pairwise (le := (· ≤ ·)) (fun a b _ _ h1 h2 => by omega) k (s1.imp fun h => of_decide_eq_true h) (h.trans p1.symm)
theorem downI_uniq {ns ms : List Int} (h : ms.Perm ns) (k : ms.Pairwise (· ≥ ·)) : ms = downI ns := by
  have p1 : (downI ns).Perm ns := List.mergeSort_perm ns _
  have s1 : (downI ns).Pairwise (fun a b => decide (b ≤ a) = true) := List.pairwise_mergeSort (fun a b c h1 h2 => by simp at *; omega) (fun a b => by simp; omega) ns
  refine List.Perm.eq_of_pairwise (le := (· ≥ ·)) (fun a b _ _ h1 h2 => by omega) k (s1.imp fun h => of_decide_eq_true h) (h.trans p1.symm)
def c_sortedI : List PyData → Option Rs := c_intsL fun ns => some (.ac ((upI ns).map PyData.int))
section
variable {K : PySem.W.Frag} {X : Cx}
theorem intsL_ok {g : List Int → Option Rs} {ds : List PyData} {r : Rs} (q : c_intsL g ds = some r) : ∃ ns, ds = [.list (ns.map PyData.int)] ∧ g ns = some r := by
  unfold c_intsL at q
  split at q
  · rename_i es
    cases z : unI es with
    | none => simp only [z] at q; cases q
    | some ns =>
      simp only [z] at q
      exact ⟨ns, by rw [unI_ok z], q⟩
  · cases q
theorem lv_ints {G H : Hp} {vs : List V} {ns : List Int} (s : Same G H) (l : LvAll K G H vs [.list (ns.map PyData.int)]) : ∃ p, vs = [.ref p] ∧ SqL K H p (ns.map V.int) := by
  obtain ⟨v, rfl, lv⟩ := lv1 l
  obtain ⟨p, ws, rfl, s1, k⟩ := lv.list s
  rw [dp_ints k] at s1
  exact ⟨p, rfl, s1⟩
theorem vc_max : VC K (rMax K) c_max := by
  intro m E G0 G e σ H vs ds rr Q R l q P
  obtain ⟨ns, rfl, q2⟩ := intsL_ok q
  clear q
  obtain ⟨p, rfl, s1⟩ := lv_ints R.gh l
  cases ns with
  | nil => cases q2
  | cons a r =>
    cases q2
    refine ⟨p, _, rfl, s1, Nat.succ_pos _, fun M h1 h2 => ?_⟩
    rw [maxI_uniq h1 h2]
    exact P.now R (.int _) True.intro
theorem vc_min : VC K (rMin K) c_min := by
  intro m E G0 G e σ H vs ds rr Q R l q P
  obtain ⟨ns, rfl, q2⟩ := intsL_ok q
  clear q
  obtain ⟨p, rfl, s1⟩ := lv_ints R.gh l
  cases ns with
  | nil => cases q2
  | cons a r =>
    cases q2
    refine ⟨p, _, rfl, s1, Nat.succ_pos _, fun M h1 h2 => ?_⟩
    rw [minI_uniq h1 h2]
    exact P.now R (.int _) True.intro
theorem vc_sum : VC K (rSum K) c_sum := by
  intro m E G0 G e σ H vs ds rr Q R l q P
  obtain ⟨ns, rfl, q2⟩ := intsL_ok q
  clear q
  obtain ⟨p, rfl, s1⟩ := lv_ints R.gh l
  cases q2
  exact ⟨p, _, rfl, s1, P.now R (.int _) True.intro⟩
theorem vc_sortedI : VC K (rSortedI K) c_sortedI := by
  intro m E G0 G e σ H vs ds rr Q R l q P
  obtain ⟨ns, rfl, q2⟩ := intsL_ok q
  clear q
  obtain ⟨p, rfl, s1⟩ := lv_ints R.gh l
  cases q2
  refine ⟨p, _, rfl, s1, fun ns' p2 h1 h2 hp => ?_⟩
  rw [upI_uniq h1 h2]
  obtain ⟨R', S', V', N'⟩ := R.newL hp (dpAll_ints (K := K) (G := G) (upI ns))
  exact P _ _ _ R' S' V' N'
theorem vc_all : VC K (rAll K) c_all := by
  intro m E G0 G e σ H vs ds rr Q R l q P
  unfold c_all at q
  split at q
  · rename_i es
    cases z : unB es with
    | none => simp only [z] at q; cases q
    | some bs =>
      simp only [z, Option.some.injEq] at q
      subst q
      obtain ⟨v, rfl, lv⟩ := lv1 l
      obtain ⟨p, ws, rfl, s1, k⟩ := lv.list R.gh
      rw [unB_ok z] at k
      rw [dp_bools k] at s1
      exact ⟨p, bs, rfl, s1, P.now R (.bl _) True.intro⟩
  · cases q
theorem vc_any : VC K (rAny K) c_any := by
  intro m E G0 G e σ H vs ds rr Q R l q P
  unfold c_any at q
  split at q
  · rename_i es
    cases z : unB es with
    | none => simp only [z] at q; cases q
    | some bs =>
      simp only [z, Option.some.injEq] at q
      subst q
      obtain ⟨v, rfl, lv⟩ := lv1 l
      obtain ⟨p, ws, rfl, s1, k⟩ := lv.list R.gh
      rw [unB_ok z] at k
      rw [dp_bools k] at s1
      exact ⟨p, bs, rfl, s1, P.now R (.bl _) True.intro⟩
  · cases q
/-- sorted(xs, reverse=True) -/
def x_sortedR (fa : Fa) : Fe := x_cb (c_intsL fun ns => some (.ac ((downI ns).map PyData.int))) fa
theorem ed_sortedR {a : Expr} {fa : Fa} {pos p kp : Pos} {j : Nat} {cp : Pos} (h : AD X [a] fa) (hm : X.mg "sorted" = none) (hg : Gl X "sorted" := by rfl)
    (hk : PK X [⟨some (Str.ofString "reverse"), .Constant (.bool true) j cp, kp⟩] (tCons (tC (.bl true)) tNil) := by exact pk_cons pe_bl pk_nil)
    (he : backTo pos (starEach [a] X.env) = (false, eval a X.env) :: backTo pos (starEach [] X.env) := by rfl) (hpl : (backTo pos (starEach [a] X.env)).any (·.1) = false := by rfl)
    (hall : (backToKw pos (keywordEach [⟨some (Str.ofString "reverse"), .Constant (.bool true) j cp, kp⟩] X.env)).all (·.1.isSome) = true := by rfl) (hnone : (backToKw pos (keywordEach [⟨some (Str.ofString "reverse"), .Constant (.bool true) j cp, kp⟩] X.env)).any (·.1.isNone) = false := by rfl)
    (hks : (backToKw pos (keywordEach [⟨some (Str.ofString "reverse"), .Constant (.bool true) j cp, kp⟩] X.env)).filterMap (·.1) = [Str.ofString "reverse"] := by rfl) :
    ED X (.Call (.Name "sorted" p) [a] [⟨some (Str.ofString "reverse"), .Constant (.bool true) j cp, kp⟩] pos) (x_sortedR fa) := by
  obtain ⟨t, pa, k⟩ := h
  refine ⟨_, pe_callBK (cr_sortedRev (b := true)) hg hm (by decide +kernel) pa hk (by decide) (by decide) he hpl hall hnone hks, fun m E G0 G e σ H r e' Q R q P => ?_⟩
  unfold x_sortedR x_cb at q
  cases h1 : argsD fa e with
  | none => simp only [h1] at q; cases q
  | some z =>
    obtain ⟨ds, e1⟩ := z
    simp only [h1] at q
    cases h2 : c_intsL (fun ns => some (.ac ((downI ns).map PyData.int))) ds with
    | none => simp only [h2] at q; cases q
    | some r2 =>
      simp only [h2, Option.some.injEq, Prod.mk.injEq] at q
      obtain ⟨rfl, rfl⟩ := q
      obtain ⟨rs, q1, q2⟩ := argsD_ok h1
      obtain ⟨ns, rfl, h3⟩ := intsL_ok h2
      cases h3
      refine k m E G0 G e σ H rs e1 _ R q1 fun vs G1 H1 R1 S1 V1 => ?_
      obtain ⟨p, rfl, s1⟩ := lv_ints R1.gh (R1.lookAll V1 q2)
      refine ⟨p, ns, rfl, rfl, s1, fun ns' p2 z1 z2 hp => ?_⟩
      have z2 : ns'.Pairwise (· ≥ ·) := z2
      rw [downI_uniq z1 z2]
      obtain ⟨R', S', V', N'⟩ := R1.newL hp (dpAll_ints (K := X.K) (G := G1) (downI ns))
      exact P _ _ _ R' (S1.trans S') V' (nw_back S1 _ N')
end
end DL
namespace DL
open PySem PySem.Spec PyProof.Rows L2 RT RZ

/-! ### the same reading whatever the block -/
def teOf (K : PySem.W.Frag) (f : Fe) : TE := fun σ H Q => ∃ m E G0 G e r e', Rl K m E G0 G e σ H ∧ f e = some (r, e') ∧ Po K m E G0 σ G H e r e' Q
def ttOf (K : PySem.W.Frag) (f : Ft) : TT := fun σ H Q => ∃ m E G0 G e b e', Rl K m E G0 G e σ H ∧ f e = some (b, e') ∧ ∀ G' H', Rl K m E G0 G' e' σ H' → Stp σ G H e G' H' e' → Q b H'
theorem ED.can {X : Cx} {x : Expr} {f : Fe} (h : ED X x f) : PE X x (teOf X.K f) := by
  obtain ⟨t, p, k⟩ := h
  refine ⟨fun pins s σ H Q I q => p.run pins s σ H Q I ?_⟩
  obtain ⟨m, E, G0, G, e, r, e', R, q, P⟩ := q
  exact k m E G0 G e σ H r e' Q R q P
theorem TD.can {X : Cx} {x : Expr} {f : Ft} (h : TD X x f) : PT X x (ttOf X.K f) := by
  obtain ⟨t, p, k⟩ := h
  refine ⟨fun pins s σ H Q I q => p.run pins s σ H Q I ?_⟩
  obtain ⟨m, E, G0, G, e, b, e', R, q, P⟩ := q
  exact k m E G0 G e σ H b e' Q R q P

/-! ### what is stored -/
section
variable {K : PySem.W.Frag} {m : Option Addr} {E : Ef} {G0 G H : Hp} {e : Ev} {σ : St} {v : V} {d : PyData}
theorem set_get {α : Type} {l : List α} {i j : Nat} {a : α} : (l.set i a)[j]? = if i = j ∧ j < l.length then some a else l[j]? := by
  rw [List.getElem?_set]
  by_cases h : i = j
  · subst h
    by_cases k : i < l.length
    · simp [k]
    · simp [k]
  · simp [h]
theorem Rl.setI (R : Rl K m E G0 G e σ H) (i : Nat) (h : Dp K G v d) : Rl K m E G0 G (e.set i (some (.im d))) (σ.set i (some v)) H := by
  have hl := R.len
  refine ⟨R.gg, R.gh, R.eh, R.mh, R.nw, by rw [List.length_set, List.length_set]; exact hl, fun j d' q => ?_, fun j ds q => ?_, fun j k dj dk p q1 q2 q3 q4 => ?_, fun j dss q => ?_⟩
  · rw [set_get] at q ⊢
    by_cases z : i = j ∧ j < e.length
    · rw [if_pos z] at q
      cases q
      rw [if_pos ⟨z.1, by omega⟩]
      exact ⟨v, rfl, h⟩
    · rw [if_neg z] at q
      rw [if_neg (by omega)]
      exact R.im j d' q
  · rw [set_get] at q ⊢
    by_cases z : i = j ∧ j < e.length
    · rw [if_pos z] at q
      cases q
    · rw [if_neg z] at q
      rw [if_neg (by omega)]
      exact R.ac j ds q
  · rw [set_get] at q1 q2 q3 q4
    by_cases z1 : i = j ∧ j < e.length
    · rw [if_pos z1] at q1
      cases q1
    · by_cases z2 : i = k ∧ k < e.length
      · rw [if_pos z2] at q2
        cases q2
      · rw [if_neg z1] at q1
        rw [if_neg z2] at q2
        rw [if_neg (by omega)] at q3
        rw [if_neg (by omega)] at q4
        exact R.inj j k dj dk p q1 q2 q3 q4
  · rw [set_get] at q ⊢
    by_cases z : i = j ∧ j < e.length
    · rw [if_pos z] at q
      cases q
    · rw [if_neg z] at q
      rw [if_neg (by omega)]
      exact R.nl j dss q
theorem Rl.setA {ds : List PyData} (R : Rl K m E G0 G e σ H) (i : Nat) (h : Vr K E G H σ e v (.ac ds)) : Rl K m E G0 G (e.set i (some (.ac ds))) (σ.set i (some v)) H := by
  have hl := R.len
  obtain ⟨p0, ws0, rfl, h1, h2, h3, h4, h5⟩ := h
  refine ⟨R.gg, R.gh, R.eh, R.mh, R.nw, by rw [List.length_set, List.length_set]; exact hl, fun j d' q => ?_, fun j ds q => ?_, fun j k dj dk p q1 q2 q3 q4 => ?_, fun j dss q => ?_⟩
  · rw [set_get] at q ⊢
    by_cases z : i = j ∧ j < e.length
    · rw [if_pos z] at q
      cases q
    · rw [if_neg z] at q
      rw [if_neg (by omega)]
      exact R.im j d' q
  · rw [set_get] at q ⊢
    by_cases z : i = j ∧ j < e.length
    · rw [if_pos z] at q
      cases q
      rw [if_pos ⟨z.1, by omega⟩]
      exact ⟨p0, ws0, rfl, h2, h3, h4, .inl h1⟩
    · rw [if_neg z] at q
      rw [if_neg (by omega)]
      exact R.ac j ds q
  · rw [set_get] at q1 q2 q3 q4
    by_cases z1 : i = j ∧ j < e.length
    · rw [if_pos ⟨z1.1, by omega⟩] at q3
      cases q3
      by_cases z2 : i = k ∧ k < e.length
      · omega
      · rw [if_neg z2] at q2
        rw [if_neg (by omega)] at q4
        exact absurd ⟨k, dk, q2, q4⟩ h5
    · by_cases z2 : i = k ∧ k < e.length
      · rw [if_pos ⟨z2.1, by omega⟩] at q4
        cases q4
        rw [if_neg z1] at q1
        rw [if_neg (by omega)] at q3
        exact absurd ⟨j, dj, q1, q3⟩ h5
      · rw [if_neg z1] at q1
        rw [if_neg z2] at q2
        rw [if_neg (by omega)] at q3
        rw [if_neg (by omega)] at q4
        exact R.inj j k dj dk p q1 q2 q3 q4
  · rw [set_get] at q ⊢
    by_cases z : i = j ∧ j < e.length
    · rw [if_pos z] at q
      cases q
    · rw [if_neg z] at q
      rw [if_neg (by omega)]
      exact R.nl j dss q
/-- slots forgotten -/
theorem Rl.forget {e' : Ev} {σ' : St} (R : Rl K m E G0 G e σ H) (hl : e'.length = e.length) (hs : σ'.length = σ.length) (h : ∀ (i : Nat) (s : Sl), e'[i]? = some (some s) → e[i]? = some (some s) ∧ σ'[i]? = σ[i]?) : Rl K m E G0 G e' σ' H := by
  refine ⟨R.gg, R.gh, R.eh, R.mh, R.nw, by rw [hl, hs]; exact R.len, fun i d q => ?_, fun i ds q => ?_, fun i j di dj p q1 q2 q3 q4 => ?_, fun i dss q => ?_⟩
  · obtain ⟨h1, h2⟩ := h i _ q
    rw [h2]
    exact R.im i d h1
  · obtain ⟨h1, h2⟩ := h i _ q
    rw [h2]
    exact R.ac i ds h1
  · obtain ⟨h1, h2⟩ := h i _ q1
    obtain ⟨h3, h4⟩ := h j _ q2
    rw [h2] at q3
    rw [h4] at q4
    exact R.inj i j di dj p h1 h3 q3 q4
  · obtain ⟨h1, h2⟩ := h i _ q
    rw [h2]
    exact R.nl i dss h1
end

/-! ### targets -/
structure GD (X : Cx) (tg : Expr) (S : List Nat) (γ : PyData → Ev → Option Ev) : Prop where
  ex : ∃ g, PG X tg g ∧ ∀ (m : Option Addr) (E : Ef) (G0 G : Hp) (e : Ev) (σ : St) (H : Hp) (v : V) (d : PyData) (e' : Ev) (Q : St → Hp → Prop),
    Rl X.K m E G0 G e σ H → Dp X.K G v d → γ d e = some e' → (∀ σ', Rl X.K m E G0 G e' σ' H → (∀ i : Nat, i ∉ S → σ'[i]? = σ[i]? ∧ e'[i]? = e[i]?) → σ'.length = σ.length → e'.length = e.length → (∀ i ∈ S, isAc e'[i]? = true → isAc e[i]? = true) → Q σ' H) → g v σ H Q
def tgOf (K : PySem.W.Frag) (S : List Nat) (γ : PyData → Ev → Option Ev) : TG := fun v σ H Q => ∃ m E G0 G e d e', Rl K m E G0 G e σ H ∧ Dp K G v d ∧ γ d e = some e' ∧
  ∀ σ', Rl K m E G0 G e' σ' H → (∀ i : Nat, i ∉ S → σ'[i]? = σ[i]? ∧ e'[i]? = e[i]?) → σ'.length = σ.length → e'.length = e.length → (∀ i ∈ S, isAc e'[i]? = true → isAc e[i]? = true) → Q σ' H
theorem GD.can {X : Cx} {tg : Expr} {S : List Nat} {γ : PyData → Ev → Option Ev} (h : GD X tg S γ) : PG X tg (tgOf X.K S γ) := by
  obtain ⟨g, p, k⟩ := h
  refine ⟨fun pins s σ H v u Q I r q => p.run pins s σ H v u Q I r ?_⟩
  obtain ⟨m, E, G0, G, e, d, e', R, D, q, P⟩ := q
  exact k m E G0 G e σ H v d e' Q R D q P
def g_name (i : Nat) : PyData → Ev → Option Ev := fun d e => some (e.set i (some (.im d)))
def setAll : List Nat → List PyData → Ev → Option Ev
  | [], [], e => some e
  | i :: is, d :: ds, e => setAll is ds (e.set i (some (.im d)))
  | _, _, _ => none
def g_tup (S : List Nat) : PyData → Ev → Option Ev := fun d e => match d with
  | .tuple ds => setAll S ds e
  | _ => none
theorem isAc_set {e : Ev} {i j : Nat} {d : PyData} (h : isAc (e.set i (some (.im d)))[j]? = true) : isAc e[j]? = true := by
  rw [set_get] at h
  by_cases z : i = j ∧ j < e.length
  · rw [if_pos z] at h
    cases h
  · rw [if_neg z] at h
    exact h
/-- names in order -/
structure GsD (X : Cx) (tgs : List Expr) (S : List Nat) : Prop where
  ex : ∃ g : TGs, PGs X tgs g ∧ ∀ (m : Option Addr) (E : Ef) (G0 G : Hp) (e : Ev) (σ : St) (H : Hp) (vs : List V) (ds : List PyData) (e' : Ev) (Q : St → Hp → Prop),
    Rl X.K m E G0 G e σ H → DpAll X.K G vs ds → setAll S ds e = some e' → (∀ σ', Rl X.K m E G0 G e' σ' H → (∀ i : Nat, i ∉ S → σ'[i]? = σ[i]? ∧ e'[i]? = e[i]?) → σ'.length = σ.length → e'.length = e.length → (∀ i ∈ S, isAc e'[i]? = true → isAc e[i]? = true) → Q σ' H) → g vs σ H Q
section
variable {X : Cx} {pos : Pos}
theorem gd_name {i : Nat} {x : Str} (hN : X.N.Nodup) (hi : X.N[i]? = some x) (hx : Loc X.env.scope x) (hf : X.fn x = true ∨ X.env.scope.names.lookup x = some .local := by first | exact .inl rfl | exact .inr rfl | assumption) : GD X (.Name x pos) [i] (g_name i) := by
  refine ⟨_, pg_name hN hi hx hf, fun m E G0 G e σ H v d e' Q R D q P => ?_⟩
  cases q
  refine P _ (R.setI i D) (fun j hj => ?_) (List.length_set ..) (List.length_set ..) fun j _ h => isAc_set h
  have z : i ≠ j := fun z => hj (by rw [z]; exact List.mem_singleton.mpr rfl)
  exact ⟨List.getElem?_set_ne z, List.getElem?_set_ne z⟩
theorem gsd_nil : GsD X [] [] := by
  refine ⟨_, pgs_nil, fun m E G0 G e σ H vs ds e' Q R D q P => ?_⟩
  cases D with
  | nil =>
    cases q
    exact ⟨rfl, P σ R (fun _ _ => ⟨rfl, rfl⟩) rfl rfl fun _ h => by cases h⟩
  | cons _ _ => cases q
theorem gsd_cons {i : Nat} {x : Str} {tgs : List Expr} {S : List Nat} (hN : X.N.Nodup) (hi : X.N[i]? = some x) (hx : Loc X.env.scope x) (hr : GsD X tgs S) (hf : X.fn x = true ∨ X.env.scope.names.lookup x = some .local := by first | exact .inl rfl | exact .inr rfl | assumption)
    (hs : (assignEach (.Name x pos :: tgs) X.env).map (·.2) = assign (.Name x pos) X.env :: (assignEach tgs X.env).map (·.2) := by rfl) : GsD X (.Name x pos :: tgs) (i :: S) := by
  obtain ⟨g, p, k⟩ := hr
  refine ⟨_, pgs_cons (pg_name hN hi hx hf) p hs, fun m E G0 G e σ H vs ds e' Q R D q P => ?_⟩
  cases D with
  | nil => cases q
  | cons h t =>
    refine ⟨_, _, rfl, ?_⟩
    refine k m E G0 G _ _ H _ _ e' Q (R.setI i h) t q fun σ' R' a1 a2 a3 a4 => ?_
    refine P σ' R' (fun j hj => ?_) (a2.trans (List.length_set ..)) (a3.trans (List.length_set ..)) fun j hj h2 => ?_
    · have z : i ≠ j := fun z => hj (by rw [z]; exact List.mem_cons_self)
      obtain ⟨b1, b2⟩ := a1 j fun y => hj (List.mem_cons_of_mem _ y)
      exact ⟨b1.trans (List.getElem?_set_ne z), b2.trans (List.getElem?_set_ne z)⟩
    · by_cases y : j ∈ S
      · exact isAc_set (a4 j y h2)
      · have b2 := (a1 j y).2
        rw [b2] at h2
        exact isAc_set h2
theorem gd_tup {tgs : List Expr} {n : Nat} {S : List Nat} (hc : X.calm = true) (h : GsD X tgs S) (hn : (assignEach tgs X.env).length = S.length := by rfl) (hst : (assignEach tgs X.env).findIdx? (·.1) = none := by rfl) : GD X (.Tuple tgs n pos) S (g_tup S) := by
  obtain ⟨g, p, k⟩ := h
  refine ⟨_, pg_tup (n := S.length) hc p hn hst, fun m E G0 G e σ H v d e' Q R D q P => ?_⟩
  unfold g_tup at q
  split at q
  · rename_i ds
    cases D with
    | tup hT hA =>
      have hl : ∀ {S : List Nat} {ds : List PyData} {e e' : Ev}, setAll S ds e = some e' → S.length = ds.length := by
        intro S
        induction S with
        | nil =>
          intro ds e e' h
          cases ds with
          | nil => rfl
          | cons _ _ => cases h
        | cons i S ih =>
          intro ds e e' h
          cases ds with
          | nil => cases h
          | cons d ds => exact congrArg (· + 1) (ih h)
      exact ⟨_, _, rfl, seqT R.gh hT, by rw [dpAll_len hA, hl q], k m E G0 G e σ H _ _ e' Q R hA q P⟩
  · cases q
end

/-! ### what is walked -/
def Yd (K : PySem.W.Frag) (G H : Hp) (x : V) (H2 : Hp) (d : PyData) : Prop :=
  (H2 = H ∧ Dp K G x d) ∨ ∃ T ws es, x = .ref T ∧ H T = none ∧ H2 = upd H T (.tup ws) ∧ d = .tuple es ∧ DpAll K G ws es
def WalkD (K : PySem.W.Frag) (G0 : Hp) (J : It) (ds : List PyData) : Prop :=
  ∀ G H, Same G0 G → Same G H → (∀ i d, ds[i]? = some d → J.go i H ∧ ∀ x H2, J.yld i H x H2 → Yd K G H x H2 d) ∧ J.stop ds.length H
abbrev Fi := Ev → Option (List PyData × Ev)
structure ID (X : Cx) (tg it : Expr) (f : Fi) : Prop where
  ex : ∃ wi, PI X tg it wi ∧ ∀ (m : Option Addr) (E : Ef) (G0 G : Hp) (e : Ev) (σ : St) (H : Hp) (ds : List PyData) (e' : Ev) (Q : It → Hp → Prop),
    Rl X.K m E G0 G e σ H → f e = some (ds, e') → (∀ J G' H', Rl X.K m E G0 G' e' σ H' → Stp σ G H e G' H' e' → WalkD X.K G' J ds → Q J H') → wi σ H Q
theorem pi_or {X : Cx} {tg it : Expr} {w1 w2 : TI} (h1 : PI X tg it w1) (h2 : PI X tg it w2) : PI X tg it (fun σ H R => w1 σ H R ∨ w2 σ H R) :=
  ⟨fun pins s σ H R I h => h.elim (h1.run pins s σ H R I) (h2.run pins s σ H R I)⟩
section
variable {K : PySem.W.Frag} {G0 : Hp} {a b : Addr} {xs ys : List V} {ds es : List PyData}
theorem walk_list (h : SqL K G0 a xs) (q : DpAll K G0 xs ds) : WalkD K G0 (Itl K a) ds := by
  intro G H s1 s2
  have hq : SqL K H a xs := (s1.trans s2).seq h
  refine ⟨fun i d e => ?_, xs, hq, by rw [dpAll_len q]; exact Nat.le_refl _⟩
  obtain ⟨v, e1, e2⟩ := dpAll_get q e
  refine ⟨⟨xs, v, hq, e1⟩, fun x H2 y => .inl ⟨y.1, ?_⟩⟩
  have z := y.2 xs hq
  rw [e1] at z
  cases z
  exact dp_same s1 e2
theorem walk_tup (h : SqT K G0 a xs) (q : DpAll K G0 xs ds) : WalkD K G0 (Itt K a) ds := by
  intro G H s1 s2
  have hq : SqT K H a xs := seqT (s1.trans s2) h
  refine ⟨fun i d e => ?_, xs, hq, by rw [dpAll_len q]; exact Nat.le_refl _⟩
  obtain ⟨v, e1, e2⟩ := dpAll_get q e
  refine ⟨⟨xs, v, hq, e1⟩, fun x H2 y => .inl ⟨y.1, ?_⟩⟩
  have z := y.2 xs hq
  rw [e1] at z
  cases z
  exact dp_same s1 e2
def rngD (lo : Int) (n : Nat) (c : Int) : List PyData := (List.range n).map fun (i : Nat) => PyData.int (lo + (i : Int) * c)
theorem rng_at {lo : Int} {n : Nat} {c : Int} {i : Nat} {d : PyData} (e : (rngD lo n c)[i]? = some d) : i < n ∧ d = .int (lo + (i : Int) * c) := by
  unfold rngD at e
  rw [List.getElem?_map] at e
  cases z : (List.range n)[i]? with
  | none => rw [z] at e; cases e
  | some j =>
    rw [z] at e
    obtain ⟨h1, h2⟩ := List.getElem?_eq_some_iff.mp z
    rw [List.length_range] at h1
    rw [List.getElem_range] at h2
    subst h2
    cases e
    exact ⟨h1, rfl⟩
theorem walk_rng {lo : Int} {n : Nat} : WalkD K G0 (Itr lo n) (rngD lo n 1) := by
  intro G H s1 s2
  refine ⟨fun i d e => ?_, by unfold rngD; rw [List.length_map, List.length_range]; exact Nat.le_refl n⟩
  obtain ⟨h1, rfl⟩ := rng_at e
  refine ⟨h1, fun x H2 y => .inl ⟨y.1, ?_⟩⟩
  rw [y.2, Int.mul_one]
  exact .int _
theorem walk_rngc {lo : Int} {n : Nat} {c : Int} : WalkD K G0 (Itc lo c n) (rngD lo n c) := by
  intro G H s1 s2
  refine ⟨fun i d e => ?_, by unfold rngD; rw [List.length_map, List.length_range]; exact Nat.le_refl n⟩
  obtain ⟨h1, rfl⟩ := rng_at e
  refine ⟨h1, fun x H2 y => .inl ⟨y.1, ?_⟩⟩
  have z : x = .int (lo + (i : Int) * c) := y.2
  rw [z]
  exact .int _
theorem rev_get {α : Type} {l : List α} {i : Nat} {x : α} (h : l.reverse[i]? = some x) : i < l.length ∧ l[l.length - 1 - i]? = some x := by
  have hi : i < l.length := by
    have := (List.getElem?_eq_some_iff.mp h).1
    rw [List.length_reverse] at this
    exact this
  refine ⟨hi, ?_⟩
  rw [List.getElem?_reverse hi] at h
  exact h
theorem walk_rev (h : SqL K G0 a xs) (q : DpAll K G0 xs ds) : WalkD K G0 (Itv K a xs.length) ds.reverse := by
  intro G H s1 s2
  have hq : SqL K H a xs := (s1.trans s2).seq h
  refine ⟨fun i d e => ?_, by rw [List.length_reverse, ← dpAll_len q]; exact Nat.le_refl _⟩
  obtain ⟨hi, e⟩ := rev_get e
  obtain ⟨v, e1, e2⟩ := dpAll_get q e
  rw [← dpAll_len q] at hi e1
  refine ⟨⟨hi, xs, v, hq, e1⟩, fun x H2 y => .inl ⟨y.1, ?_⟩⟩
  have z := y.2 xs hq
  rw [e1] at z
  cases z
  exact dp_same s1 e2
theorem walk_revT (h : SqT K G0 a xs) (q : DpAll K G0 xs ds) : WalkD K G0 (ItvT K a xs.length) ds.reverse := by
  intro G H s1 s2
  have hq : SqT K H a xs := seqT (s1.trans s2) h
  refine ⟨fun i d e => ?_, by rw [List.length_reverse, ← dpAll_len q]; exact Nat.le_refl _⟩
  obtain ⟨hi, e⟩ := rev_get e
  obtain ⟨v, e1, e2⟩ := dpAll_get q e
  rw [← dpAll_len q] at hi e1
  refine ⟨⟨hi, xs, v, hq, e1⟩, fun x H2 y => .inl ⟨y.1, ?_⟩⟩
  have z := y.2 xs hq
  rw [e1] at z
  cases z
  exact dp_same s1 e2
def zipD (ds es : List PyData) : List PyData := List.zipWith (fun a b => PyData.tuple [a, b]) ds es
theorem zip_at {i : Nat} {d : PyData} (e : (zipD ds es)[i]? = some d) : ∃ x y, ds[i]? = some x ∧ es[i]? = some y ∧ d = .tuple [x, y] := by
  unfold zipD at e
  rw [List.getElem?_zipWith] at e
  cases h1 : ds[i]? with
  | none => rw [h1] at e; cases e
  | some x =>
    cases h2 : es[i]? with
    | none => rw [h1, h2] at e; cases e
    | some y =>
      rw [h1, h2] at e
      cases e
      exact ⟨x, y, rfl, rfl, rfl⟩
theorem walk_zip (h : SqL K G0 a xs) (q : DpAll K G0 xs ds) (h' : SqL K G0 b ys) (q' : DpAll K G0 ys es) : WalkD K G0 (Itz K a b) (zipD ds es) := by
  intro G H s1 s2
  have hq : SqL K H a xs := (s1.trans s2).seq h
  have hq' : SqL K H b ys := (s1.trans s2).seq h'
  refine ⟨fun i d e => ?_, xs, ys, hq, hq', ?_⟩
  · obtain ⟨x, y, e1, e2, rfl⟩ := zip_at e
    obtain ⟨v, f1, f2⟩ := dpAll_get q e1
    obtain ⟨v', f1', f2'⟩ := dpAll_get q' e2
    refine ⟨⟨xs, ys, v, v', hq, hq', f1, f1'⟩, fun w H2 y => .inr ?_⟩
    obtain ⟨T, x1, x2, rfl, nT, rfl, z1, z2⟩ := y
    have g1 := z1 xs hq
    have g2 := z2 ys hq'
    rw [f1] at g1
    rw [f1'] at g2
    cases g1
    cases g2
    exact ⟨T, [v, v'], _, rfl, nT, rfl, rfl, .cons (dp_same s1 f2) (.cons (dp_same s1 f2') .nil)⟩
  · unfold zipD
    rw [List.length_zipWith, ← dpAll_len q, ← dpAll_len q']
    omega
theorem walk_zipT (h : SqT K G0 a xs) (q : DpAll K G0 xs ds) (h' : SqT K G0 b ys) (q' : DpAll K G0 ys es) : WalkD K G0 (ItzT K a b) (zipD ds es) := by
  intro G H s1 s2
  have hq : SqT K H a xs := seqT (s1.trans s2) h
  have hq' : SqT K H b ys := seqT (s1.trans s2) h'
  refine ⟨fun i d e => ?_, xs, ys, hq, hq', ?_⟩
  · obtain ⟨x, y, e1, e2, rfl⟩ := zip_at e
    obtain ⟨v, f1, f2⟩ := dpAll_get q e1
    obtain ⟨v', f1', f2'⟩ := dpAll_get q' e2
    refine ⟨⟨xs, ys, v, v', hq, hq', f1, f1'⟩, fun w H2 y => .inr ?_⟩
    obtain ⟨T, x1, x2, rfl, nT, rfl, z1, z2⟩ := y
    have g1 := z1 xs hq
    have g2 := z2 ys hq'
    rw [f1] at g1
    rw [f1'] at g2
    cases g1
    cases g2
    exact ⟨T, [v, v'], _, rfl, nT, rfl, rfl, .cons (dp_same s1 f2) (.cons (dp_same s1 f2') .nil)⟩
  · unfold zipD
    rw [List.length_zipWith, ← dpAll_len q, ← dpAll_len q']
    omega
end
/-- a list or a tuple that stays -/
def i_seq (f : Fe) : Fi := fun e => match f e with
  | some (r, e1) => (match frzR r with
    | .im (.list ds) => some (ds, e1)
    | .im (.tuple ds) => some (ds, e1)
    | _ => none)
  | none => none
theorem i_seq_ok {f : Fe} {e e' : Ev} {ds : List PyData} (q : i_seq f e = some (ds, e')) : ∃ r, f e = some (r, e') ∧ (frzR r = .im (.list ds) ∨ frzR r = .im (.tuple ds)) := by
  unfold i_seq at q
  split at q
  · rename_i r e1 h
    split at q
    · rename_i es h2
      cases q
      exact ⟨r, h, .inl h2⟩
    · rename_i es h2
      cases q
      exact ⟨r, h, .inr h2⟩
    · cases q
  · cases q
section
variable {X : Cx} {tg a b c : Expr} {fa fb fc : Fe} {pos p : Pos}
theorem id_seq (ha : ED X a fa) : ID X tg a (i_seq fa) := by
  obtain ⟨t, pa, k⟩ := ha
  refine ⟨_, pi_or (pi_list pa) (pi_tup pa), fun m E G0 G e σ H ds e' Q R q P => ?_⟩
  obtain ⟨r, q1, q2⟩ := i_seq_ok q
  rcases q2 with q2 | q2
  · refine .inl (k m E G0 G e σ H r e' _ R q1 fun v G1 H1 R1 S1 V1 N1 => ?_)
    obtain ⟨G1', R1', S1', s1, V1'⟩ := R1.freeze S1 V1 N1
    rw [q2] at V1'
    have V2 : Dp X.K G1' v (.list ds) := V1'
    cases V2 with
    | lst h z => exact ⟨_, rfl, ⟨_, R1'.gh.seq h⟩, P _ _ _ R1' S1' (walk_list h z)⟩
  · refine .inr (k m E G0 G e σ H r e' _ R q1 fun v G1 H1 R1 S1 V1 N1 => ?_)
    obtain ⟨G1', R1', S1', s1, V1'⟩ := R1.freeze S1 V1 N1
    rw [q2] at V1'
    have V2 : Dp X.K G1' v (.tuple ds) := V1'
    cases V2 with
    | tup h z => exact ⟨_, rfl, ⟨_, seqT R1'.gh h⟩, P _ _ _ R1' S1' (walk_tup h z)⟩
/-- reversed(xs) -/
def i_rev (f : Fe) : Fi := fun e => match i_seq f e with
  | some (ds, e1) => some (ds.reverse, e1)
  | none => none
theorem id_rev (ha : ED X a fa) (hm : X.mg "reversed" = none) (hg : Gl X "reversed" := by rfl) (hs : starEach [a] X.env = (false, eval a X.env) :: starEach [] X.env := by rfl) : ID X tg (.Call (.Name "reversed" p) [a] [] pos) (i_rev fa) := by
  obtain ⟨t, pa, k⟩ := ha
  refine ⟨_, pi_revA hg hm pa hs, fun m E G0 G e σ H ds e' Q R q P => ?_⟩
  unfold i_rev at q
  cases h0 : i_seq fa e with
  | none => simp only [h0] at q; cases q
  | some z =>
    obtain ⟨es, e1⟩ := z
    simp only [h0, Option.some.injEq, Prod.mk.injEq] at q
    obtain ⟨rfl, rfl⟩ := q
    obtain ⟨r, q1, q2⟩ := i_seq_ok h0
    refine k m E G0 G e σ H r e1 _ R q1 fun v G1 H1 R1 S1 V1 N1 => ?_
    obtain ⟨G1', R1', S1', s1, V1'⟩ := R1.freeze S1 V1 N1
    rcases q2 with q2 | q2
    · rw [q2] at V1'
      have V2 : Dp X.K G1' v (.list es) := V1'
      cases V2 with
      | lst h z => exact ⟨_, _, rfl, .inl ⟨R1'.gh.seq h, P _ _ _ R1' S1' (walk_rev h z)⟩⟩
    · rw [q2] at V1'
      have V2 : Dp X.K G1' v (.tuple es) := V1'
      cases V2 with
      | tup h z => exact ⟨_, _, rfl, .inr ⟨seqT R1'.gh h, P _ _ _ R1' S1' (walk_revT h z)⟩⟩
/-- range -/
def rgC (i : Int) : Bool := decide (-4611686018427387904 ≤ i ∧ i < 4611686018427387904)
theorem rgC_ok {i : Int} (h : rgC i = true) : -(2 ^ 62) ≤ i ∧ i < 2 ^ 62 := by
  have h := of_decide_eq_true h
  have e : (2 : Int) ^ 62 = 4611686018427387904 := by decide
  rw [e]
  exact h
def i_rng1 (fa : Fe) : Fi := fun e => match fa e with
  | some (.im (.int j), e1) => if rgC j = true then some (rngD 0 j.toNat 1, e1) else none
  | _ => none
def i_rng2 (fa fb : Fe) : Fi := fun e => match fa e with
  | some (.im (.int i), e1) => (match fb e1 with
    | some (.im (.int j), e2) => if (rgC i && rgC j) = true then some (rngD i (j - i).toNat 1, e2) else none
    | _ => none)
  | _ => none
def i_rng3 (fa fb fc : Fe) : Fi := fun e => match fa e with
  | some (.im (.int i), e1) => (match fb e1 with
    | some (.im (.int j), e2) => (match fc e2 with
      | some (.im (.int c), e3) => if (rgC i && (rgC j && decide (c = -1))) = true then some (rngD i (i - j).toNat (-1), e3) else none
      | _ => none)
    | _ => none)
  | _ => none
theorem id_rng1 (ha : ED X a fa) (hm : X.mg "range" = none) (hg : Gl X "range" := by rfl) (hs : starEach [a] X.env = [(false, eval a X.env)] := by rfl) : ID X tg (.Call (.Name "range" p) [a] [] pos) (i_rng1 fa) := by
  obtain ⟨t, pa, k⟩ := ha
  refine ⟨_, pi_range1 hg hm (pa_cons pa pa_nil hs) hs, fun m E G0 G e σ H ds e' Q R q P => ?_⟩
  unfold i_rng1 at q
  split at q
  · rename_i j e1 h1
    by_cases z : rgC j = true
    · rw [if_pos z] at q
      simp only [Option.some.injEq, Prod.mk.injEq] at q
      obtain ⟨rfl, rfl⟩ := q
      refine k m E G0 G e σ H _ e1 _ R h1 fun v G1 H1 R1 S1 V1 _ => ?_
      cases V1
      obtain ⟨z1, z2⟩ := rgC_ok z
      exact ⟨j, rfl, z1, z2, P _ _ _ R1 S1 walk_rng⟩
    · rw [if_neg z] at q
      cases q
  · cases q
theorem id_rng2 (ha : ED X a fa) (hb : ED X b fb) (hm : X.mg "range" = none) (hg : Gl X "range" := by rfl) (hs : starEach [a, b] X.env = [(false, eval a X.env), (false, eval b X.env)] := by rfl) (hs2 : starEach [b] X.env = [(false, eval b X.env)] := by rfl) : ID X tg (.Call (.Name "range" p) [a, b] [] pos) (i_rng2 fa fb) := by
  obtain ⟨t, pa, k⟩ := ha
  obtain ⟨t2, pb, k2⟩ := hb
  refine ⟨_, pi_range2 hg hm (pa_cons pa (pa_cons pb pa_nil hs2) (by rw [hs, hs2])) hs hs2, fun m E G0 G e σ H ds e' Q R q P => ?_⟩
  unfold i_rng2 at q
  split at q
  · rename_i i e1 h1
    split at q
    · rename_i j e2 h2
      by_cases z : (rgC i && rgC j) = true
      · rw [if_pos z] at q
        simp only [Option.some.injEq, Prod.mk.injEq] at q
        obtain ⟨rfl, rfl⟩ := q
        refine k m E G0 G e σ H _ e1 _ R h1 fun v G1 H1 R1 S1 V1 _ => ?_
        refine k2 m E G0 G1 e1 σ H1 _ e2 _ R1 h2 fun v2 G2 H2 R2 S2 V2 _ => ?_
        cases V1
        cases V2
        obtain ⟨z1, z2⟩ := Bool.and_eq_true_iff.mp z
        have z1 := rgC_ok z1
        have z2 := rgC_ok z2
        exact ⟨i, j, rfl, ⟨z1.1, z1.2, z2.1, z2.2⟩, P _ _ _ R2 (S1.trans S2) walk_rng⟩
      · rw [if_neg z] at q
        cases q
    · cases q
  · cases q
theorem id_rng3 (ha : ED X a fa) (hb : ED X b fb) (hc : ED X c fc) (hm : X.mg "range" = none) (hg : Gl X "range" := by rfl) (hs : starEach [a, b, c] X.env = (false, eval a X.env) :: starEach [b, c] X.env := by rfl) (hs2 : starEach [b, c] X.env = (false, eval b X.env) :: starEach [c] X.env := by rfl) (hs3 : starEach [c] X.env = (false, eval c X.env) :: starEach [] X.env := by rfl)
    (hpl : (backTo pos (starEach [b, c] X.env)).any (·.1) = false := by rfl) : ID X tg (.Call (.Name "range" p) [a, b, c] [] pos) (i_rng3 fa fb fc) := by
  obtain ⟨t, pa, k⟩ := ha
  obtain ⟨t2, pb, k2⟩ := hb
  obtain ⟨t3, pc, k3⟩ := hc
  refine ⟨_, pi_range3 hg hm (pa_cons pa (pa_cons pb (pa_cons pc pa_nil hs3) hs2) hs) hs hpl, fun m E G0 G e σ H ds e' Q R q P => ?_⟩
  unfold i_rng3 at q
  split at q
  · rename_i i e1 h1
    split at q
    · rename_i j e2 h2
      split at q
      · rename_i cc e3 h3
        by_cases z : (rgC i && (rgC j && decide (cc = -1))) = true
        · rw [if_pos z] at q
          simp only [Option.some.injEq, Prod.mk.injEq] at q
          obtain ⟨rfl, rfl⟩ := q
          refine k m E G0 G e σ H _ e1 _ R h1 fun v G1 H1 R1 S1 V1 _ => ?_
          refine k2 m E G0 G1 e1 σ H1 _ e2 _ R1 h2 fun v2 G2 H2 R2 S2 V2 _ => ?_
          refine k3 m E G0 G2 e2 σ H2 _ e3 _ R2 h3 fun v3 G3 H3 R3 S3 V3 _ => ?_
          cases V1
          cases V2
          cases V3
          obtain ⟨z1, z2⟩ := Bool.and_eq_true_iff.mp z
          obtain ⟨z4, z5⟩ := Bool.and_eq_true_iff.mp z2
          have y1 := rgC_ok z1
          have y2 := rgC_ok z4
          have y3 := of_decide_eq_true z5
          subst y3
          exact ⟨i, j, -1, _, rfl, RgC.neg y1.1 y1.2 y2.1 y2.2, P _ _ _ R3 (S1.trans (S2.trans S3)) walk_rngc⟩
        · rw [if_neg z] at q
          cases q
      · cases q
    · cases q
  · cases q
/-- zip of two lists, of two tuples -/
def i_zip (fa fb : Fe) : Fi := fun e => match two fa fb e with
  | some (.im (.list xs), .im (.list ys), e1) => some (zipD xs ys, e1)
  | some (.im (.tuple xs), .im (.tuple ys), e1) => some (zipD xs ys, e1)
  | _ => none
theorem id_zip {es : List Expr} {kk : Nat} {tpos : Pos} (ha : ED X a fa) (hb : ED X b fb) (hm : X.mg "zip" = none) (hg : Gl X "zip" := by rfl) (hs : starEach [a, b] X.env = (false, eval a X.env) :: starEach [b] X.env := by rfl) (hs2 : starEach [b] X.env = (false, eval b X.env) :: starEach [] X.env := by rfl)
    (hpl : (backTo pos (starEach [b] X.env)).any (·.1) = false := by rfl) : ID X (.Tuple es kk tpos) (.Call (.Name "zip" p) [a, b] [] pos) (i_zip fa fb) := by
  obtain ⟨ta, tb, pa, pb, k2⟩ := two_ok ha hb
  refine ⟨_, pi_zipA hg hm (pa_cons pa (pa_cons pb pa_nil hs2) hs) hs hpl, fun m E G0 G e σ H ds e' Q R q P => ?_⟩
  unfold i_zip at q
  split at q
  · rename_i xs ys e1 h1
    simp only [Option.some.injEq, Prod.mk.injEq] at q
    obtain ⟨rfl, rfl⟩ := q
    refine k2 m E G0 G e σ H _ _ e1 _ R h1 fun u v G' H' R' S' V1 V2 => ?_
    have V1 : Dp X.K G' u (.list xs) := V1
    have V2 : Dp X.K G' v (.list ys) := V2
    cases V1 with
    | lst h1 d1 =>
      cases V2 with
      | lst h2 d2 => exact ⟨_, _, _, _, rfl, .inl ⟨R'.gh.seq h1, R'.gh.seq h2, P _ _ _ R' S' (walk_zip h1 d1 h2 d2)⟩⟩
  · rename_i xs ys e1 h1
    simp only [Option.some.injEq, Prod.mk.injEq] at q
    obtain ⟨rfl, rfl⟩ := q
    refine k2 m E G0 G e σ H _ _ e1 _ R h1 fun u v G' H' R' S' V1 V2 => ?_
    have V1 : Dp X.K G' u (.tuple xs) := V1
    have V2 : Dp X.K G' v (.tuple ys) := V2
    cases V1 with
    | tup h1 d1 =>
      cases V2 with
      | tup h2 d2 => exact ⟨_, _, _, _, rfl, .inr ⟨seqT R'.gh h1, seqT R'.gh h2, P _ _ _ R' S' (walk_zipT h1 d1 h2 d2)⟩⟩
  · cases q
end
end DL
namespace DL
open PySem PySem.Spec PyProof.Rows L2

/-! ### comprehensions -/
def wipeE (e : Ev) : List Nat → Ev
  | [] => e
  | v :: vs => (wipeE e vs).set v none
def restE (e e' : Ev) : List Nat → Ev
  | [] => e'
  | v :: vs => (restE e e' vs).set v (match e[v]? with
    | some s => s
    | none => none)
def noAc (e : Ev) (vs : List Nat) : Bool := vs.all fun i => !isAc e[i]?
def lcGo (γ : PyData → Ev → Option Ev) (tst : Ft) (fe : Fe) (vs : List Nat) : List PyData → Ev → List PyData → Option (List PyData × Ev)
  | [], e, acc => some (acc, e)
  | d :: ds, e, acc => match γ d e with
    | some e1 => (match tst e1 with
      | some (true, e2) => (match fe e2 with
        | some (r, e3) => (match imR (frzR r) with
          | some y => if okLen (acc.length + 1) = true then lcGo γ tst fe vs ds (wipeE e3 vs) (acc ++ [y]) else none
          | none => none)
        | none => none)
      | some (false, e2) => lcGo γ tst fe vs ds (wipeE e2 vs) acc
      | none => none)
    | none => none
def x_lc (fi : Fi) (γ : PyData → Ev → Option Ev) (tst : Ft) (fe : Fe) (vs : List Nat) : Fe := fun e => match fi e with
  | some (ds, e1) => if noAc e1 vs = true then (match lcGo γ tst fe vs ds (wipeE e1 vs) [] with
    | some (acc, e2) => some (.ac acc, restE e1 e2 vs)
    | none => none) else none
  | none => none
section
variable {e e' : Ev} {vs : List Nat} {σ σ' : St} {i : Nat}
theorem wipeE_len : ∀ vs : List Nat, (wipeE e vs).length = e.length
  | [] => rfl
  | v :: vs => (List.length_set ..).trans (wipeE_len vs)
theorem wipeE_out : ∀ {vs : List Nat}, i ∉ vs → (wipeE e vs)[i]? = e[i]?
  | [], _ => rfl
  | v :: vs, h => by
    have h1 : v ≠ i := fun z => h (by rw [z]; exact List.mem_cons_self)
    unfold wipeE
    rw [List.getElem?_set_ne h1]
    exact wipeE_out fun z => h (List.mem_cons_of_mem _ z)
theorem wipeE_in : ∀ {vs : List Nat} {s : Sl}, (wipeE e vs)[i]? = some (some s) → i ∉ vs
  | [], _, _ => by simp
  | v :: vs, s, h => by
    unfold wipeE at h
    rw [set_get] at h
    by_cases z : v = i ∧ i < (wipeE e vs).length
    · rw [if_pos z] at h
      cases h
    · rw [if_neg z] at h
      have hl := (List.getElem?_eq_some_iff.mp h).1
      intro q
      rcases List.mem_cons.mp q with q | q
      · exact z ⟨q.symm, hl⟩
      · exact wipeE_in h q
theorem wipe_in : ∀ {vs : List Nat}, i ∈ vs → (wipe σ vs)[i]? = if i < σ.length then some none else none
  | [], h => by cases h
  | v :: vs, h => by
    unfold wipe
    rw [set_get, wipe_length]
    by_cases z : v = i ∧ i < σ.length
    · rw [if_pos z, if_pos z.2]
    · rw [if_neg z]
      by_cases y : i ∈ vs
      · exact wipe_in y
      · have e1 : i = v := by
          rcases List.mem_cons.mp h with q | q
          · exact q
          · exact absurd q y
        have hl : ¬ i < σ.length := fun q => z ⟨e1.symm, q⟩
        rw [if_neg hl, wipe_out y]
        exact List.getElem?_eq_none (by omega)
theorem wipe_same (h : ∀ i : Nat, i ∉ vs → σ'[i]? = σ[i]?) (hl : σ'.length = σ.length) : wipe σ' vs = wipe σ vs := by
  apply List.ext_getElem?
  intro i
  by_cases z : i ∈ vs
  · rw [wipe_in z, wipe_in z, hl]
  · rw [wipe_out z, wipe_out z]
    exact h i z
theorem wipe_wipe : wipe (wipe σ vs) vs = wipe σ vs := wipe_same (fun i z => wipe_out z) (wipe_length _ _)
theorem restE_len : ∀ vs : List Nat, (restE e e' vs).length = e'.length
  | [] => rfl
  | v :: vs => (List.length_set ..).trans (restE_len vs)
theorem restE_out : ∀ {vs : List Nat}, i ∉ vs → (restE e e' vs)[i]? = e'[i]?
  | [], _ => rfl
  | v :: vs, h => by
    have h1 : v ≠ i := fun z => h (by rw [z]; exact List.mem_cons_self)
    unfold restE
    rw [List.getElem?_set_ne h1]
    exact restE_out fun z => h (List.mem_cons_of_mem _ z)
theorem restE_in (hl : e'.length = e.length) : ∀ {vs : List Nat}, i ∈ vs → (restE e e' vs)[i]? = e[i]?
  | [], h => by cases h
  | v :: vs, h => by
    unfold restE
    rw [set_get, restE_len]
    by_cases z : v = i ∧ i < e'.length
    · rw [if_pos z]
      have h2 : i < e.length := by omega
      rw [z.1, List.getElem?_eq_getElem h2]
    · rw [if_neg z]
      by_cases y : i ∈ vs
      · exact restE_in hl y
      · have e1 : i = v := by
          rcases List.mem_cons.mp h with q | q
          · exact q
          · exact absurd q y
        have h2 : ¬ i < e'.length := fun q => z ⟨e1.symm, q⟩
        rw [restE_out y, List.getElem?_eq_none (by omega), List.getElem?_eq_none (by omega)]
theorem noAc_at (h : noAc e vs = true) (hi : i ∈ vs) : isAc e[i]? = false := by
  have q := List.all_eq_true.mp h i hi
  simpa using q
end
section
variable {K : PySem.W.Frag} {m : Option Addr} {E : Ef} {G0 G H : Hp} {e : Ev} {σ : St} {vs : List Nat} {D : Addr} {ws : List V}
theorem Rl.wipe (R : Rl K m E G0 G e σ H) (vs : List Nat) : Rl K m E G0 G (wipeE e vs) (L2.wipe σ vs) H :=
  R.forget (wipeE_len _) (wipe_length _ _) fun i s h => by
    have z := wipeE_in h
    rw [wipeE_out z] at h
    exact ⟨h, wipe_out z⟩
theorem own_wipe (h : noAc e vs = true) {a : Addr} : Own (L2.wipe σ vs) (wipeE e vs) a ↔ Own σ e a := by
  constructor
  · rintro ⟨i, ds, h1, h2⟩
    have z := wipeE_in h1
    rw [wipeE_out z] at h1
    rw [wipe_out z] at h2
    exact ⟨i, ds, h1, h2⟩
  · rintro ⟨i, ds, h1, h2⟩
    have z : i ∉ vs := fun z => by
      have q := noAc_at h z
      rw [h1] at q
      cases q
    exact ⟨i, ds, by rw [wipeE_out z]; exact h1, by rw [wipe_out z]; exact h2⟩
/-- a list that is nobody's is written -/
theorem Rl.updD (R : Rl K m E G0 G e σ H) (hG : G D = none) (hE : E D = none) (hO : ¬ Own σ e D) : Rl K m E G0 G e σ (upd H D (.lst ws)) := by
  refine ⟨R.gg, fun b o q => ?_, fun b o q1 q2 => ?_, fun b q => ⟨(R.mh b q).1, ?_⟩, R.nw, R.len, R.im, fun i ds q => ?_, R.inj, R.nl⟩
  · rw [upd_ne (ne_of_none q hG)]
    exact R.gh b o q
  · rw [upd_ne (ne_of_none q1 hE)]
    exact R.eh b o q1 q2
  · have z : b ≠ D := fun z => (R.mh b q).1 (by rw [z]; exact hE)
    rw [upd_ne z]
    exact (R.mh b q).2
  · obtain ⟨p, ws', h1, h2, h3, h4, h5⟩ := R.ac i ds q
    have z : p ≠ D := fun z => hO ⟨i, ds, q, by rw [← z]; exact h1⟩
    exact ⟨p, ws', h1, h2, by rw [upd_ne z]; exact h3, h4, h5⟩
end
section
variable {X : Cx}
/-- the loop -/
theorem lc_ok {m : Option Addr} {E : Ef} {G0 G1 H1 : Hp} {e1 : Ev} {σ : St} {ds : List PyData} {J : It} {S vs : List Nat} {γ : PyData → Ev → Option Ev} {tst : Ft} {fe : Fe} {acc : List PyData} {eF : Ev} {K : PySem.W.Frag} {Q : VK} {D : Addr}
    (R1 : Rl K m E G0 G1 e1 σ H1) (WD : WalkD K G1 J ds) (hS : ∀ i ∈ S, i ∈ vs) (hn : noAc e1 vs = true) (q : lcGo γ tst fe vs ds (wipeE e1 vs) [] = some (acc, eF)) (hD : H1 D = none)
    (P : ∀ G H, Rl K m E G0 G (restE e1 eF vs) σ H → Stp σ G1 H1 e1 G H (restE e1 eF vs) → Vr K E G H σ (restE e1 eF vs) (.ref D) (.ac acc) → Q (.ref D) H) :
    ∃ W : Nat → Nat → Hp → Prop, (∃ mm, W 0 mm (upd H1 D (.lst []))) ∧ ∀ i mm H, W i mm H →
      (J.stop i H ∧ Q (.ref D) H) ∨ (J.go i H ∧ ∃ Nx : Hp → Prop, (∀ H', Nx H' → ∃ m', m' < mm ∧ W (i + 1) m' H') ∧ ∀ x H', J.yld i H x H' → tgOf K S γ x (L2.wipe σ vs) H' fun σ2 H2 => L2.wipe σ2 vs = L2.wipe σ vs ∧ ttOf K tst σ2 H2 fun b H3 =>
        if b = true then teOf K fe σ2 H3 fun y H4 => ∃ acc, H4 D = some (.lst acc) ∧ acc.length < sizeLine ∧ Nx (upd H4 D (.lst (acc ++ [y]))) else Nx H3) := by
  obtain ⟨gD, eD, oD, mD⟩ := R1.fresh hD
  let W : Nat → Nat → Hp → Prop := fun i mm H => ∃ G e ac ws, mm = ds.length - i ∧ i ≤ ds.length ∧ Rl K m E G0 G e (L2.wipe σ vs) H ∧ Stp (L2.wipe σ vs) G1 H1 (wipeE e1 vs) G H e ∧ G D = none ∧ H D = some (.lst ws) ∧ DpAll K G ws ac ∧ lcGo γ tst fe vs (ds.drop i) e ac = some (acc, eF)
  refine ⟨W, ⟨ds.length, G1, wipeE e1 vs, [], [], by simp, Nat.zero_le _, ?_, ?_, gD, upd_same, .nil, by simpa using q⟩, ?_⟩
  · exact ((R1.wipe vs).newL hD .nil).1
  · exact ((R1.wipe vs).newL hD (ds := []) .nil).2.1
  rintro i mm H ⟨G, e, ac, ws, rfl, hi, R, S1, hG, hH, dv, lc⟩
  -- what is nobody's
  have noD : ¬ Own (L2.wipe σ vs) e D := fun z => oD ((own_wipe hn).mp ((own_kd S1.kd).mp z))
  obtain ⟨wk, stop⟩ := WD G H S1.gg R.gh
  by_cases hlt : i < ds.length
  · have hd : ds.drop i = ds[i] :: ds.drop (i + 1) := by rw [List.drop_eq_getElem_cons hlt]
    have hget : ds[i]? = some ds[i] := List.getElem?_eq_getElem hlt
    rw [hd] at lc
    generalize ds[i] = d at lc hget hd
    obtain ⟨go, yl⟩ := wk i d hget
    refine .inr ⟨go, W (i + 1) (ds.length - (i + 1)), fun H' h => ⟨_, by omega, h⟩, fun x H' y => ?_⟩
    -- what is yielded
    have hY : ∃ G', Rl K m E G0 G' e (L2.wipe σ vs) H' ∧ Stp (L2.wipe σ vs) G H e G' H' e ∧ Dp K G' x d := by
      rcases yl x H' y with ⟨rfl, h⟩ | ⟨T, us, es, rfl, nT, rfl, rfl, h⟩
      · exact ⟨G, R, Stp.refl, h⟩
      · obtain ⟨R', S', D'⟩ := R.newT nT h
        exact ⟨_, R', S', D'⟩
    obtain ⟨G', R', S', dx⟩ := hY
    have gD' : G' D = none := S'.nw D hG (by rw [hH]; simp)
    have hD' : H' D = some (.lst ws) := S'.hh D _ hH noD
    -- the turn's own steps
    simp only [lcGo] at lc
    cases h1 : γ d e with
    | none => simp only [h1] at lc; cases lc
    | some e2 =>
      simp only [h1] at lc
      refine ⟨m, E, G0, G', e, d, e2, R', dx, h1, fun σ' R2 out sl el ac1 => ?_⟩
      have wsame : L2.wipe σ' vs = L2.wipe σ vs := by
        have z := wipe_same (vs := vs) (σ' := σ') (σ := L2.wipe σ vs) (fun i hi => (out i fun z => hi (hS i z)).1) sl
        rw [wipe_wipe] at z
        exact z
      refine ⟨wsame, ?_⟩
      have vsE : ∀ i ∈ vs, isAc e[i]? = false := fun i hi => by
        rw [S1.kd i]
        cases z : (wipeE e1 vs)[i]? with
        | none => rfl
        | some s =>
          cases s with
          | none => rfl
          | some s => exact absurd hi (wipeE_in z)
      have own2 : ∀ a, Own σ' e2 a → Own (L2.wipe σ vs) e a := fun a ⟨j, dj, z1, z2⟩ => by
        by_cases hj : j ∈ S
        · have q1 := ac1 j hj (by rw [z1]; rfl)
          rw [vsE j (hS j hj)] at q1
          cases q1
        · obtain ⟨o1, o2⟩ := out j hj
          exact ⟨j, dj, by rw [← o2]; exact z1, by rw [← o1]; exact z2⟩
      -- closing a turn: from the state behind the element
      have fin : ∀ {G5 H4 : Hp} {e3 : Ev} {ws2 : List V} {ac2 : List PyData}, Rl K m E G0 G5 e3 σ' H4 → Stp σ' G' H' e2 G5 H4 e3 → DpAll K G5 ws2 ac2 → lcGo γ tst fe vs (ds.drop (i + 1)) (wipeE e3 vs) ac2 = some (acc, eF) →
          W (i + 1) (ds.length - (i + 1)) (upd H4 D (.lst ws2)) := by
        intro G5 H4 e3 ws2 ac2 R5 S5 d5 lc5
        have g5 : G5 D = none := S5.nw D gD' (by rw [hD']; simp)
        have o5 : ¬ Own σ' e3 D := fun z => noD (own2 D ((own_kd S5.kd).mp z))
        have R6 := (R5.updD (ws := ws2) g5 eD o5).wipe vs
        rw [wsame] at R6
        refine ⟨G5, wipeE e3 vs, ac2, ws2, rfl, hlt, R6, ⟨S1.gg.trans (S'.gg.trans S5.gg), fun a h1 h2 => ?_, fun a o h1 h2 => ?_, fun j => ?_, fun a h1 => ?_⟩, g5, upd_same, d5, lc5⟩
        · exact S5.nw a (S'.nw a (S1.nw a h1 h2) (S1.th a h2)) (S'.th a (S1.th a h2))
        · have z : a ≠ D := ne_of_none h1 hD
          rw [upd_ne z]
          have n1 : ¬ Own (L2.wipe σ vs) e a := fun y => h2 ((own_kd S1.kd).mp y)
          exact S5.hh a o (S'.hh a o (S1.hh a o h1 h2) n1) fun y => n1 (own2 a y)
        · by_cases hj : j ∈ vs
          · have b1 : ∀ {e : Ev}, isAc (wipeE e vs)[j]? = false := fun {e} => by
              cases z : (wipeE e vs)[j]? with
              | none => rfl
              | some s =>
                cases s with
                | none => rfl
                | some s => exact absurd hj (wipeE_in z)
            rw [b1, b1]
          · rw [wipeE_out hj, S5.kd j, (out j fun z => hj (hS j z)).2]
            exact S1.kd j
        · by_cases z : a = D
          · rw [z, upd_same]
            simp
          · rw [upd_ne z]
            exact S5.th a (S'.th a (S1.th a h1))
      cases h2 : tst e2 with
      | none => simp only [h2] at lc; cases lc
      | some z =>
        obtain ⟨b, e3⟩ := z
        cases b with
        | false =>
          simp only [h2] at lc
          refine ⟨m, E, G0, G', e2, false, e3, R2, h2, fun G3 H3 R3 S3 => ?_⟩
          show (if false = true then _ else _)
          rw [if_neg Bool.false_ne_true]
          have w3 : H3 D = some (.lst ws) := S3.hh D _ hD' fun z => noD (own2 D z)
          have eu : upd H3 D (.lst ws) = H3 := by
            funext b
            by_cases z : b = D
            · rw [z, upd_same, w3]
            · rw [upd_ne z]
          have z := fin R3 S3 (dpAll_same (S'.gg.trans S3.gg) dv) lc
          rw [eu] at z
          exact z
        | true =>
          simp only [h2] at lc
          refine ⟨m, E, G0, G', e2, true, e3, R2, h2, fun G3 H3 R3 S3 => ?_⟩
          show (if true = true then _ else _)
          rw [if_pos rfl]
          cases h3 : fe e3 with
          | none => simp only [h3] at lc; cases lc
          | some z =>
            obtain ⟨r, e4⟩ := z
            simp only [h3] at lc
            refine ⟨m, E, G0, G3, e3, r, e4, R3, h3, fun v G4 H4 R4 S4 V4 N4 => ?_⟩
            obtain ⟨G5, R5, S5, s5, V5⟩ := R4.freeze (S3.trans S4) V4 (nw_back S3 v N4)
            cases h4 : imR (frzR r) with
            | none => simp only [h4] at lc; cases lc
            | some yd =>
              simp only [h4] at lc
              have er : frzR r = .im yd := by
                cases r with
                | im d =>
                  cases h4
                  rfl
                | ac ds =>
                  cases h4
                  rfl
                | br i => cases h4
              rw [er] at V5
              by_cases h5 : okLen (ac.length + 1) = true
              · rw [if_pos h5] at lc
                have w4 : H4 D = some (.lst ws) := S5.hh D _ hD' fun z => noD (own2 D z)
                have hl := okLen_ok h5
                refine ⟨ws, w4, by rw [dpAll_len dv]; omega, ?_⟩
                exact fin R5 S5 (dpAll_app (dpAll_same (S'.gg.trans S5.gg) dv) (.cons V5 .nil)) lc
              · rw [if_neg h5] at lc
                cases lc
  · have hi2 : i = ds.length := by omega
    subst hi2
    rw [List.drop_length] at lc
    simp only [lcGo, Option.some.injEq, Prod.mk.injEq] at lc
    obtain ⟨rfl, rfl⟩ := lc
    have hl : e.length = e1.length := by
      have z1 := R.len
      have z2 := R1.len
      rw [wipe_length] at z1
      omega
    have vsE : ∀ i ∈ vs, isAc e[i]? = false := fun i hi => by
      rw [S1.kd i]
      cases z : (wipeE e1 vs)[i]? with
      | none => rfl
      | some s =>
        cases s with
        | none => rfl
        | some s => exact absurd hi (wipeE_in z)
    have kd : ∀ j : Nat, isAc (restE e1 e vs)[j]? = isAc e1[j]? := fun j => by
      by_cases hj : j ∈ vs
      · rw [restE_in hl hj]
      · rw [restE_out hj, S1.kd j, wipeE_out hj]
    have get : ∀ {j : Nat} {s : Sl}, (restE e1 e vs)[j]? = some (some s) → (j ∈ vs ∧ e1[j]? = some (some s)) ∨ (j ∉ vs ∧ e[j]? = some (some s)) := fun {j s} z => by
      by_cases hj : j ∈ vs
      · rw [restE_in hl hj] at z
        exact .inl ⟨hj, z⟩
      · rw [restE_out hj] at z
        exact .inr ⟨hj, z⟩
    have ac1 : ∀ {j : Nat} {dj : List PyData}, (restE e1 e vs)[j]? = some (some (.ac dj)) → j ∉ vs ∧ e[j]? = some (some (.ac dj)) := fun {j dj} z => by
      rcases get z with ⟨h1, h2⟩ | z
      · have q1 := noAc_at hn h1
        rw [h2] at q1
        cases q1
      · exact z
    have RF : Rl K m E G0 G (restE e1 e vs) σ H := by
      refine ⟨R.gg, R.gh, R.eh, R.mh, R.nw, by rw [restE_len, hl]; exact R1.len, fun j d z => ?_, fun j dj z => ?_, fun j k dj dk p z1 z2 z3 z4 => ?_, fun j dss z => ?_⟩
      · rcases get z with ⟨h1, h2⟩ | ⟨h1, h2⟩
        · obtain ⟨v, a1, a2⟩ := R1.im j d h2
          exact ⟨v, a1, dp_same S1.gg a2⟩
        · obtain ⟨v, a1, a2⟩ := R.im j d h2
          rw [wipe_out h1] at a1
          exact ⟨v, a1, a2⟩
      · obtain ⟨h1, h2⟩ := ac1 z
        obtain ⟨p, w, a1, a2⟩ := R.ac j dj h2
        rw [wipe_out h1] at a1
        exact ⟨p, w, a1, a2⟩
      · obtain ⟨h1, h2⟩ := ac1 z1
        obtain ⟨h3, h4⟩ := ac1 z2
        exact R.inj j k dj dk p h2 h4 (by rw [wipe_out h1]; exact z3) (by rw [wipe_out h3]; exact z4)
      · rcases get z with ⟨h1, h2⟩ | ⟨h1, h2⟩
        · exact (R1.nl j dss h2).mono S1.gg
        · have a1 := R.nl j dss h2
          rw [wipe_out h1] at a1
          exact a1
    refine .inl ⟨stop, P G H RF ⟨S1.gg, S1.nw, fun a o h1 h2 => S1.hh a o h1 fun z => h2 ((own_wipe hn).mp z), kd, S1.th⟩ ⟨D, ws, rfl, eD, hG, hH, dv, fun z => oD ((own_kd kd).mp z)⟩⟩
structure PTD (X : Cx) (ifs : List Expr) (f : Ft) : Prop where
  ex : PTs X ifs (ttOf X.K f)
def t_yes : Ft := fun e => some (true, e)
theorem ptd_nil : PTD X [] t_yes := ⟨⟨fun pins s σ H Q I h => by
  obtain ⟨m, E, G0, G, e, b, e', R, q, P⟩ := h
  cases q
  exact pts_nil.run pins s σ H Q I (P G H R Stp.refl)⟩⟩
theorem ptd_one {c : Expr} {f : Ft} (h : TD X c f) : PTD X [c] f := ⟨pts_one h.can⟩
variable {elt tg it : Expr} {ifs : List Expr} {scope : Scope} {own : List (Str × Nat)} {pos spos : Pos} {fi : Fi} {S : List Nat} {γ : PyData → Ev → Option Ev} {tst : Ft} {fe : Fe}
theorem x_lc_ok {wi : TI} (hS : ∀ i ∈ S, i ∈ own.map (·.2)) (k : ∀ (m : Option Addr) (E : Ef) (G0 G : Hp) (e : Ev) (σ : St) (H : Hp) (ds : List PyData) (e' : Ev) (Q : It → Hp → Prop),
      Rl X.K m E G0 G e σ H → fi e = some (ds, e') → (∀ J G' H', Rl X.K m E G0 G' e' σ H' → Stp σ G H e G' H' e' → WalkD X.K G' J ds → Q J H') → wi σ H Q)
    (m : Option Addr) (E : Ef) (G0 G : Hp) (e : Ev) (σ : St) (H : Hp) (r : Rs) (e' : Ev) (Q : VK) (R : Rl X.K m E G0 G e σ H) (q : x_lc fi γ tst fe (own.map (·.2)) e = some (r, e')) (P : Po X.K m E G0 σ G H e r e' Q) :
    tLc wi (tgOf X.K S γ) (ttOf X.K tst) (teOf X.K fe) (own.map (·.2)) σ H Q := by
  unfold x_lc at q
  cases h1 : fi e with
  | none => simp only [h1] at q; cases q
  | some z =>
    obtain ⟨ds, e1⟩ := z
    simp only [h1] at q
    by_cases h2 : noAc e1 (own.map (·.2)) = true
    · rw [if_pos h2] at q
      cases h3 : lcGo γ tst fe (own.map (·.2)) ds (wipeE e1 (own.map (·.2))) [] with
      | none => simp only [h3] at q; cases q
      | some z =>
        obtain ⟨acc, e2⟩ := z
        simp only [h3, Option.some.injEq, Prod.mk.injEq] at q
        obtain ⟨rfl, rfl⟩ := q
        refine k m E G0 G e σ H ds e1 _ R h1 fun J G1 H1 R1 S1 W1 D hD => ?_
        exact lc_ok R1 W1 hS h2 h3 hD fun G2 H2 R2 S2 V2 => P _ G2 H2 R2 (S1.trans S2) V2 (nw_back S1 _ fun p z => by
          cases z
          exact hD)
    · rw [if_neg h2] at q
      cases q
/-- [elt for tg in it if ..] -/
theorem ed_lc (hc : X.calm = true) (hN : X.N.Nodup) (hi : ID X tg it fi) (ok : blkC X.N X.env.scope scope own = true) (hS : ∀ i ∈ S, i ∈ own.map (·.2))
    (hg : ∀ (s : Shared) (H : Hp) (C : Addr) (cl : List (Str × Addr)) (fp : List Addr), GD (X.blk s H scope (compEnvC scope cl C X.env) fp) tg S γ) (ht : ∀ (s : Shared) (H : Hp) (C : Addr) (cl : List (Str × Addr)) (fp : List Addr), PTD (X.blk s H scope (compEnvC scope cl C X.env) fp) ifs tst)
    (he : ∀ (s : Shared) (H : Hp) (C : Addr) (cl : List (Str × Addr)) (fp : List Addr), ED (X.blk s H scope (compEnvC scope cl C X.env) fp) elt fe) (hs : ∀ x, foldedSetIterable it X.env x = pure x := by intro _; rfl) :
    ED X (.ListComp elt [⟨tg, it, ifs, 0⟩] scope pos) (x_lc fi γ tst fe (own.map (·.2))) := by
  obtain ⟨wi, pi, k⟩ := hi
  exact ⟨_, pe_lc hc hN pi (blkOk_by ok) (fun s H C cl fp => (hg s H C cl fp).can) (fun s H C cl fp => (ht s H C cl fp).ex) (fun s H C cl fp => (he s H C cl fp).can) hs, x_lc_ok hS k⟩
end
end DL
namespace DL
open PySem PySem.Spec PyProof.Rows L2

/-! ### statements -/
/-- the first slot stays the caller's list, if there is one -/
structure Rz (K : PySem.W.Frag) (m : Option Addr) (E : Ef) (G0 G : Hp) (e : Ev) (σ : St) (H : Hp) : Prop where
  r : Rl K m E G0 G e σ H
  z : ∀ p, m = some p → isAc e[0]? = true ∧ σ[0]? = some (some (.ref p))
def PoS (K : PySem.W.Frag) (m : Option Addr) (E : Ef) (G0 G : Hp) (D : Ends) : Fl → Prop
  | .nx e => ∀ G' σ H, Same G G' → Rz K m E G0 G' e σ H → D.nx σ H
  | .bk e => ∀ G' σ H, Same G G' → Rz K m E G0 G' e σ H → D.bk σ H
  | .ct e => ∀ G' σ H, Same G G' → Rz K m E G0 G' e σ H → D.ct σ H
  | .rt r e => ∀ v G' σ H, Same G G' → Rz K m E G0 G' e σ H → Vr K E G' H σ e v r → D.rt v H
structure SD (X : Cx) (st : Stmt) (f : Fs) : Prop where
  ex : ∃ t : TS, PS X st t ∧ ∀ (m : Option Addr) (E : Ef) (G0 G : Hp) (e : Ev) (σ : St) (H : Hp) (fl : Fl) (D : Ends),
    Rz X.K m E G0 G e σ H → f e = some fl → PoS X.K m E G0 G D fl → t D σ H
structure SsD (X : Cx) (sts : List Stmt) (f : Fs) : Prop where
  ex : ∃ t : TS, PSs X sts t ∧ ∀ (m : Option Addr) (E : Ef) (G0 G : Hp) (e : Ev) (σ : St) (H : Hp) (fl : Fl) (D : Ends),
    Rz X.K m E G0 G e σ H → f e = some fl → PoS X.K m E G0 G D fl → t D σ H
section
variable {K : PySem.W.Frag} {m : Option Addr} {E : Ef} {G0 G G' H H' : Hp} {e e' : Ev} {σ σ' : St} {v : V} {d : PyData} {D D' : Ends} {fl : Fl} {i : Nat}
theorem PoS.aft (P : PoS K m E G0 G D fl) (s : Same G G') : PoS K m E G0 G' D fl := by
  cases fl with
  | nx e => exact fun G2 σ H s2 R => P G2 σ H (s.trans s2) R
  | bk e => exact fun G2 σ H s2 R => P G2 σ H (s.trans s2) R
  | ct e => exact fun G2 σ H s2 R => P G2 σ H (s.trans s2) R
  | rt r e => exact fun v G2 σ H s2 R V => P v G2 σ H (s.trans s2) R V
theorem Rz.exp (R : Rz K m E G0 G e σ H) (R' : Rl K m E G0 G' e' σ H') (S : Stp σ G H e G' H' e') : Rz K m E G0 G' e' σ H' :=
  ⟨R', fun p z => ⟨by rw [S.kd 0]; exact (R.z p z).1, (R.z p z).2⟩⟩
def okS (S : List Nat) (e : Ev) : Bool := !(S.contains 0 && isAc e[0]?)
theorem okS_no (h : okS S e = true) (q : isAc e[0]? = true) : 0 ∉ S := by
  intro z
  unfold okS at h
  rw [q, List.contains_iff_mem.mpr z] at h
  cases h
theorem Rz.setI (R : Rz K m E G0 G e σ H) (h : Dp K G v d) (ok : okS [i] e = true) : Rz K m E G0 G (e.set i (some (.im d))) (σ.set i (some v)) H :=
  ⟨R.r.setI i h, fun p z => by
    obtain ⟨z1, z2⟩ := R.z p z
    have n := okS_no ok z1
    have n : i ≠ 0 := fun q => n (by rw [q]; exact List.mem_singleton.mpr rfl)
    rw [List.getElem?_set_ne n, List.getElem?_set_ne n]
    exact ⟨z1, z2⟩⟩
theorem Rz.setA {ds : List PyData} (R : Rz K m E G0 G e σ H) (h : Vr K E G H σ e v (.ac ds)) (ok : okS [i] e = true) : Rz K m E G0 G (e.set i (some (.ac ds))) (σ.set i (some v)) H :=
  ⟨R.r.setA i h, fun p z => by
    obtain ⟨z1, z2⟩ := R.z p z
    have n := okS_no ok z1
    have n : i ≠ 0 := fun q => n (by rw [q]; exact List.mem_singleton.mpr rfl)
    rw [List.getElem?_set_ne n, List.getElem?_set_ne n]
    exact ⟨z1, z2⟩⟩
end
def s_seq (f g : Fs) : Fs := fun e => match f e with
  | some (.nx e1) => g e1
  | some x => some x
  | none => none
def s_nx : Fs := fun e => some (.nx e)
def s_no : Fs := fun _ => none
section
variable {X : Cx} {st : Stmt} {rest : List Stmt} {f g : Fs} {pos : Pos} {a : Expr} {fe : Fe}
theorem ssd_nil : SsD X [] s_nx := ⟨_, pss_nil, fun m E G0 G e σ H fl D R q P => by
  cases q
  exact P G σ H (Same.refl _) R⟩
theorem ssd_cons (h : SD X st f) (h2 : SsD X rest g) : SsD X (st :: rest) (s_seq f g) := by
  obtain ⟨t, p, k⟩ := h
  obtain ⟨t2, p2, k2⟩ := h2
  refine ⟨_, pss_cons p p2, fun m E G0 G e σ H fl D R q P => ?_⟩
  unfold s_seq at q
  split at q
  · rename_i e1 h1
    refine k m E G0 G e σ H _ _ R h1 ?_
    exact fun G' σ' H' s R' => k2 m E G0 G' e1 σ' H' fl D R' q (P.aft s)
  · rename_i x h2 h1
    cases q
    refine k m E G0 G e σ H _ _ R h1 ?_
    cases fl with
    | nx e1 => exact (h2 e1 rfl).elim
    | bk e => exact P
    | ct e => exact P
    | rt r e => exact P
  · cases q
theorem ssd_one (h : SD X st f) : SsD X [st] f := by
  obtain ⟨t, p, k⟩ := h
  exact ⟨_, pss_one p, k⟩
theorem sd_pass : SD X (.Pass pos) s_nx := ⟨_, ps_pass, fun m E G0 G e σ H fl D R q P => by
  cases q
  exact P G σ H (Same.refl _) R⟩
def s_bk : Fs := fun e => some (.bk e)
def s_ct : Fs := fun e => some (.ct e)
theorem sd_break : SD X (.Break pos) s_bk := ⟨_, ps_break, fun m E G0 G e σ H fl D R q P => by
  cases q
  exact P G σ H (Same.refl _) R⟩
theorem sd_continue : SD X (.Continue pos) s_ct := ⟨_, ps_continue, fun m E G0 G e σ H fl D R q P => by
  cases q
  exact P G σ H (Same.refl _) R⟩
theorem sd_never : SD X st s_no := ⟨_, ps_never, fun m E G0 G e σ H fl D R q P => by cases q⟩
theorem sd_doc {x j p} : SD X (.Expr (.Constant (.str x) j p) pos) s_nx := ⟨_, ps_doc, fun m E G0 G e σ H fl D R q P => by
  cases q
  exact P G σ H (Same.refl _) R⟩
def s_drop (f : Fe) : Fs := fun e => match f e with
  | some (_, e1) => some (.nx e1)
  | none => none
theorem sd_expr (h : ED X a fe) (hs : swapsWith a none pos.line X.env = pure false := by rfl) : SD X (.Expr a pos) (s_drop fe) := by
  obtain ⟨t, p, k⟩ := h
  refine ⟨_, ps_expr p hs, fun m E G0 G e σ H fl D R q P => ?_⟩
  unfold s_drop at q
  split at q
  · rename_i r e1 h1
    cases q
    exact k m E G0 G e σ H _ _ _ R.r h1 fun v G' H' R' S' V N => P G' σ H' S'.gg (R.exp R' S')
  · cases q
def s_ret (f : Fe) : Fs := fun e => match f e with
  | some (r, e1) => some (.rt r e1)
  | none => none
theorem sd_ret (h : ED X a fe) : SD X (.Return (some a) pos) (s_ret fe) := by
  obtain ⟨t, p, k⟩ := h
  refine ⟨_, ps_ret p, fun m E G0 G e σ H fl D R q P => ?_⟩
  unfold s_ret at q
  split at q
  · rename_i r e1 h1
    cases q
    exact k m E G0 G e σ H _ _ _ R.r h1 fun v G' H' R' S' V N => P v G' σ H' S'.gg (R.exp R' S') V
  · cases q
theorem sd_retN : SD X (.Return none pos) (fun e => some (.rt (.im .none) e)) := ⟨_, ps_retN, fun m E G0 G e σ H fl D R q P => by
  cases q
  exact P .non G σ H (Same.refl _) R .non⟩
def s_if (c : Ft) (f g : Fs) : Fs := fun e => match c e with
  | some (true, e1) => f e1
  | some (false, e1) => g e1
  | none => none
theorem sd_if {tst : Expr} {A B : List Stmt} {c : Ft} (hc : TD X tst c) (ha : SsD X A f) (hb : SsD X B g) : SD X (.If tst A B pos) (s_if c f g) := by
  obtain ⟨t, p, k⟩ := hc
  obtain ⟨t1, p1, k1⟩ := ha
  obtain ⟨t2, p2, k2⟩ := hb
  refine ⟨_, ps_if p p1 p2, fun m E G0 G e σ H fl D R q P => ?_⟩
  unfold s_if at q
  split at q
  · rename_i e1 h1
    refine k m E G0 G e σ H true e1 _ R.r h1 fun G' H' R' S' => ?_
    rw [if_pos rfl]
    exact k1 m E G0 G' e1 σ H' fl D (R.exp R' S') q (P.aft S'.gg)
  · rename_i e1 h1
    refine k m E G0 G e σ H false e1 _ R.r h1 fun G' H' R' S' => ?_
    rw [if_neg Bool.false_ne_true]
    exact k2 m E G0 G' e1 σ H' fl D (R.exp R' S') q (P.aft S'.gg)
  · cases q
/-! ### name = value: a list of one's own, or frozen -/
def putA (i : Nat) (e : Ev) : Rs → Option Ev
  | .im d => some (e.set i (some (.im d)))
  | .ac ds => some (e.set i (some (.ac ds)))
  | .br _ => none
def s_set (i : Nat) (f : Fe) : Fs := fun e => match f e with
  | some (r, e1) => if okS [i] e1 = true then (match putA i e1 r with
    | some e2 => some (.nx e2)
    | none => none) else none
  | none => none
def s_setF (i : Nat) (f : Fe) : Fs := s_set i fun e => match f e with
  | some (r, e1) => some (frzR r, e1)
  | none => none
theorem set_ok {i : Nat} {te : TE} (k : ∀ (m : Option Addr) (E : Ef) (G0 G : Hp) (e : Ev) (σ : St) (H : Hp) (r : Rs) (e' : Ev) (Q : VK), Rl X.K m E G0 G e σ H → fe e = some (r, e') → Po X.K m E G0 σ G H e r e' Q → te σ H Q)
    (m : Option Addr) (E : Ef) (G0 G : Hp) (e : Ev) (σ : St) (H : Hp) (fl : Fl) (D : Ends) (R : Rz X.K m E G0 G e σ H) (q : s_set i fe e = some fl) (P : PoS X.K m E G0 G D fl) : tAsg te (gName i) D σ H := by
  unfold s_set at q
  split at q
  · rename_i r e1 h1
    by_cases ok : okS [i] e1 = true
    · rw [if_pos ok] at q
      refine k m E G0 G e σ H _ _ _ R.r h1 fun v G' H' R' S' V N => ?_
      have Rx := R.exp R' S'
      cases r with
      | im d =>
        cases q
        exact P G' _ H' S'.gg (Rx.setI V ok)
      | ac ds =>
        cases q
        exact P G' _ H' S'.gg (Rx.setA V ok)
      | br j => cases q
    · rw [if_neg ok] at q
      cases q
  · cases q
theorem frz_k {te : TE} (k : ∀ (m : Option Addr) (E : Ef) (G0 G : Hp) (e : Ev) (σ : St) (H : Hp) (r : Rs) (e' : Ev) (Q : VK), Rl X.K m E G0 G e σ H → fe e = some (r, e') → Po X.K m E G0 σ G H e r e' Q → te σ H Q)
    (m : Option Addr) (E : Ef) (G0 G : Hp) (e : Ev) (σ : St) (H : Hp) (r : Rs) (e' : Ev) (Q : VK) (R : Rl X.K m E G0 G e σ H) (q : (match fe e with
      | some (r, e1) => some (frzR r, e1)
      | none => none) = some (r, e')) (P : Po X.K m E G0 σ G H e r e' Q) : te σ H Q := by
  split at q
  · rename_i r1 e1 h1
    cases q
    refine k m E G0 G e σ H _ _ _ R h1 fun v G' H' R' S' V N => ?_
    obtain ⟨G2, R2, S2, s2, V2⟩ := R'.freeze S' V N
    exact P v G2 H' R2 S2 V2 (by cases r1 <;> exact True.intro)
  · cases q
section
variable {i : Nat} {x : Str} {pos' : Pos}
theorem sd_set (i : Nat) (hN : X.N.Nodup) (h : ED X a fe) (hi : X.N[i]? = some x := by rfl) (hx : Loc X.env.scope x := by first | exact .inl rfl | exact .inr rfl) (hs : swapsWith a (some (.Name x pos')) pos.line X.env = pure false := by rfl) (hf : X.fn x = true ∨ X.env.scope.names.lookup x = some .local := by first | exact .inl rfl | exact .inr rfl | assumption) :
    SD X (.Assign [.Name x pos'] a pos) (s_set i fe) := by
  obtain ⟨t, p, k⟩ := h
  exact ⟨_, ps_set hN hi hx p hs hf, set_ok k⟩
theorem sd_setF (i : Nat) (hN : X.N.Nodup) (h : ED X a fe) (hi : X.N[i]? = some x := by rfl) (hx : Loc X.env.scope x := by first | exact .inl rfl | exact .inr rfl) (hs : swapsWith a (some (.Name x pos')) pos.line X.env = pure false := by rfl) (hf : X.fn x = true ∨ X.env.scope.names.lookup x = some .local := by first | exact .inl rfl | exact .inr rfl | assumption) :
    SD X (.Assign [.Name x pos'] a pos) (s_setF i fe) := by
  obtain ⟨t, p, k⟩ := h
  exact ⟨_, ps_set hN hi hx p hs hf, set_ok (frz_k k)⟩
end
/-! name = [.. for ..], written on one line -/
section
variable {elt tg it : Expr} {ifs : List Expr} {scope : Scope} {own : List (Str × Nat)} {lpos spos : Pos} {fi : Fi} {S : List Nat} {γ : PyData → Ev → Option Ev} {tst : Ft} {fe : Fe} {x : Str} {pos' : Pos}
theorem sd_setLc (i : Nat) (hc : X.calm = true) (hN : X.N.Nodup) (hi : ID X tg it fi) (ok : blkC X.N X.env.scope scope own = true) (hS : ∀ i ∈ S, i ∈ own.map (·.2))
    (hg : ∀ (s : Shared) (H : Hp) (C : Addr) (cl : List (Str × Addr)) (fp : List Addr), GD (X.blk s H scope (compEnvC scope cl C X.env) fp) tg S γ) (ht : ∀ (s : Shared) (H : Hp) (C : Addr) (cl : List (Str × Addr)) (fp : List Addr), PTD (X.blk s H scope (compEnvC scope cl C X.env) fp) ifs tst)
    (he : ∀ (s : Shared) (H : Hp) (C : Addr) (cl : List (Str × Addr)) (fp : List Addr), ED (X.blk s H scope (compEnvC scope cl C X.env) fp) elt fe) (hs : ∀ x, foldedSetIterable it X.env x = pure x := by intro _; rfl)
    (hy : X.N[i]? = some x := by rfl) (hyl : X.env.scope.names.lookup x = some .local := by rfl) (hsw : swapsWith (.ListComp elt [⟨tg, it, ifs, 0⟩] scope lpos) (some (.Name x pos')) spos.line X.env = pure true := by rfl) :
    SD X (.Assign [.Name x pos'] (.ListComp elt [⟨tg, it, ifs, 0⟩] scope lpos) spos) (s_set i (x_lc fi γ tst fe (own.map (·.2)))) := by
  obtain ⟨wi, pi, k⟩ := hi
  exact ⟨_, ps_setLc hc hN hy hyl hsw pi (blkOk_by ok) (fun s H C cl fp => (hg s H C cl fp).can) (fun s H C cl fp => (ht s H C cl fp).ex) (fun s H C cl fp => (he s H C cl fp).can) hs, set_ok (x_lc_ok hS k)⟩
theorem sd_setLcF (i : Nat) (hc : X.calm = true) (hN : X.N.Nodup) (hi : ID X tg it fi) (ok : blkC X.N X.env.scope scope own = true) (hS : ∀ i ∈ S, i ∈ own.map (·.2))
    (hg : ∀ (s : Shared) (H : Hp) (C : Addr) (cl : List (Str × Addr)) (fp : List Addr), GD (X.blk s H scope (compEnvC scope cl C X.env) fp) tg S γ) (ht : ∀ (s : Shared) (H : Hp) (C : Addr) (cl : List (Str × Addr)) (fp : List Addr), PTD (X.blk s H scope (compEnvC scope cl C X.env) fp) ifs tst)
    (he : ∀ (s : Shared) (H : Hp) (C : Addr) (cl : List (Str × Addr)) (fp : List Addr), ED (X.blk s H scope (compEnvC scope cl C X.env) fp) elt fe) (hs : ∀ x, foldedSetIterable it X.env x = pure x := by intro _; rfl)
    (hy : X.N[i]? = some x := by rfl) (hyl : X.env.scope.names.lookup x = some .local := by rfl) (hsw : swapsWith (.ListComp elt [⟨tg, it, ifs, 0⟩] scope lpos) (some (.Name x pos')) spos.line X.env = pure true := by rfl) :
    SD X (.Assign [.Name x pos'] (.ListComp elt [⟨tg, it, ifs, 0⟩] scope lpos) spos) (s_setF i (x_lc fi γ tst fe (own.map (·.2)))) := by
  obtain ⟨wi, pi, k⟩ := hi
  exact ⟨_, ps_setLc hc hN hy hyl hsw pi (blkOk_by ok) (fun s H C cl fp => (hg s H C cl fp).can) (fun s H C cl fp => (ht s H C cl fp).ex) (fun s H C cl fp => (he s H C cl fp).can) hs, set_ok (frz_k (x_lc_ok hS k))⟩
end
/-! ### for -/
def forGo (γ : PyData → Ev → Option Ev) (S : List Nat) (fb : Fs) : List PyData → Ev → Option Fl
  | [], e => some (.nx e)
  | d :: ds, e => if okS S e = true then (match γ d e with
    | some e2 => (match fb e2 with
      | some (.nx e3) => forGo γ S fb ds e3
      | some (.ct e3) => forGo γ S fb ds e3
      | some (.bk e3) => some (.nx e3)
      | some (.rt r e3) => some (.rt r e3)
      | none => none)
    | none => none) else none
def s_for (fi : Fi) (γ : PyData → Ev → Option Ev) (S : List Nat) (fb : Fs) : Fs := fun e => match fi e with
  | some (ds, e1) => forGo γ S fb ds e1
  | none => none
theorem sd_for {tg it : Expr} {body : List Stmt} {fi : Fi} {S : List Nat} {γ : PyData → Ev → Option Ev} {fb : Fs} (hc : X.calm = true) (hp : PassesOwn (model X.prog X.w) X.A X.env X.xe) (hi : ID X tg it fi) (hg : GD X tg S γ) (hb : SsD X body fb)
    (hs : ∀ x, foldedSetIterable it X.env x = pure x := by intro _; rfl) : SD X (.For tg it body [] pos) (s_for fi γ S fb) := by
  obtain ⟨wi, pi, ki⟩ := hi
  obtain ⟨g, pg, kg⟩ := hg
  obtain ⟨tb, pb, kb⟩ := hb
  refine ⟨_, ps_for hp hc pi pg pb hs, fun m E G0 G e σ H fl D R q P => ?_⟩
  unfold s_for at q
  cases h1 : fi e with
  | none => simp only [h1] at q; cases q
  | some z =>
    obtain ⟨ds, e1⟩ := z
    simp only [h1] at q
    refine ki m E G0 G e σ H ds e1 _ R.r h1 fun J G1 H1 R1 S1 W1 => ?_
    let W : Nat → Nat → St → Hp → Prop := fun i mm σ H => ∃ G2 e2, mm = ds.length - i ∧ i ≤ ds.length ∧ Rz X.K m E G0 G2 e2 σ H ∧ Same G1 G2 ∧ forGo γ S fb (ds.drop i) e2 = some fl
    refine ⟨W, ⟨ds.length, G1, e1, by simp, Nat.zero_le _, R.exp R1 S1, Same.refl _, by simpa using q⟩, ?_⟩
    rintro i mm σ2 H2 ⟨G2, e2, rfl, hi, R2, s2, lc⟩
    obtain ⟨wk, stop⟩ := W1 G2 H2 s2 R2.r.gh
    by_cases hlt : i < ds.length
    · have hd : ds.drop i = ds[i] :: ds.drop (i + 1) := by rw [List.drop_eq_getElem_cons hlt]
      have hget : ds[i]? = some ds[i] := List.getElem?_eq_getElem hlt
      rw [hd] at lc
      generalize ds[i] = d at lc hget hd
      obtain ⟨go, yl⟩ := wk i d hget
      refine .inr ⟨go, W (i + 1) (ds.length - (i + 1)), fun σ' H' h => ⟨_, by omega, h⟩, fun x H' y => ?_⟩
      have hY : ∃ G', Rz X.K m E G0 G' e2 σ2 H' ∧ Same G2 G' ∧ Dp X.K G' x d := by
        rcases yl x H' y with ⟨rfl, h⟩ | ⟨T, us, es, rfl, nT, rfl, rfl, h⟩
        · exact ⟨G2, R2, Same.refl _, h⟩
        · obtain ⟨R', S', D'⟩ := R2.r.newT nT h
          exact ⟨_, R2.exp R' S', S'.gg, D'⟩
      obtain ⟨G', R', s', dx⟩ := hY
      simp only [forGo] at lc
      by_cases ok : okS S e2 = true
      · rw [if_pos ok] at lc
        cases h2 : γ d e2 with
        | none => simp only [h2] at lc; cases lc
        | some e3 =>
          simp only [h2] at lc
          refine kg m E G0 G' e2 σ2 H' x d e3 _ R'.r dx h2 fun σ3 R3 out sl el ac1 => ?_
          have R3' : Rz X.K m E G0 G' e3 σ3 H' := ⟨R3, fun p z => by
            obtain ⟨z1, z2⟩ := R'.z p z
            obtain ⟨o1, o2⟩ := out 0 (okS_no ok z1)
            rw [o1, o2]
            exact ⟨z1, z2⟩⟩
          cases h3 : fb e3 with
          | none => simp only [h3] at lc; cases lc
          | some x3 =>
            refine kb m E G0 G' e3 σ3 H' x3 _ R3' h3 ?_
            cases x3 with
            | nx e4 =>
              simp only [h3] at lc
              exact fun G4 σ4 H4 s4 R4 => ⟨G4, e4, rfl, hlt, R4, s2.trans (s'.trans s4), lc⟩
            | ct e4 =>
              simp only [h3] at lc
              exact fun G4 σ4 H4 s4 R4 => ⟨G4, e4, rfl, hlt, R4, s2.trans (s'.trans s4), lc⟩
            | bk e4 =>
              simp only [h3, Option.some.injEq] at lc
              subst lc
              exact fun G4 σ4 H4 s4 R4 => P G4 σ4 H4 (S1.gg.trans (s2.trans (s'.trans s4))) R4
            | rt r e4 =>
              simp only [h3, Option.some.injEq] at lc
              subst lc
              exact fun v G4 σ4 H4 s4 R4 V => P v G4 σ4 H4 (S1.gg.trans (s2.trans (s'.trans s4))) R4 V
      · rw [if_neg ok] at lc
        cases lc
    · have hi2 : i = ds.length := by omega
      subst hi2
      rw [List.drop_length] at lc
      cases lc
      exact .inl ⟨stop, P G2 σ2 H2 (S1.gg.trans s2) R2⟩
/-! ### while -/
def whGo (tst : Ft) (fb : Fs) : Nat → Ev → Option Fl
  | 0, _ => none
  | n + 1, e => match tst e with
    | some (false, e1) => some (.nx e1)
    | some (true, e1) => (match fb e1 with
      | some (.nx e3) => whGo tst fb n e3
      | some (.ct e3) => whGo tst fb n e3
      | some (.bk e3) => some (.nx e3)
      | some (.rt r e3) => some (.rt r e3)
      | none => none)
    | none => none
def s_while (n : Ev → Nat) (tst : Ft) (fb : Fs) : Fs := fun e => whGo tst fb (n e) e
theorem sd_while (n : Ev → Nat) {c : Expr} {body : List Stmt} {tst : Ft} {fb : Fs} (hp : PassesOwn (model X.prog X.w) X.A X.env X.xe) (hc : TD X c tst) (hb : SsD X body fb) : SD X (.While c body [] pos) (s_while n tst fb) := by
  obtain ⟨tc, pc, kc⟩ := hc
  obtain ⟨tb, pb, kb⟩ := hb
  refine ⟨_, ps_while hp pc pb, fun m E G0 G e σ H fl D R q P => ?_⟩
  let W : Nat → St → Hp → Prop := fun mm σ H => ∃ G2 e2, Rz X.K m E G0 G2 e2 σ H ∧ Same G G2 ∧ whGo tst fb mm e2 = some fl
  refine ⟨W, ⟨n e, G, e, R, Same.refl _, q⟩, ?_⟩
  rintro mm σ2 H2 ⟨G2, e2, R2, s2, lc⟩
  cases mm with
  | zero => cases lc
  | succ mm =>
    simp only [whGo] at lc
    cases h1 : tst e2 with
    | none => simp only [h1] at lc; cases lc
    | some z =>
      obtain ⟨b, e3⟩ := z
      refine kc m E G0 G2 e2 σ2 H2 b e3 _ R2.r h1 fun G3 H3 R3 S3 => ?_
      have Rx := R2.exp R3 S3
      cases b with
      | false =>
        simp only [h1, Option.some.injEq] at lc
        subst lc
        rw [if_neg Bool.false_ne_true]
        exact P G3 σ2 H3 (s2.trans S3.gg) Rx
      | true =>
        simp only [h1] at lc
        rw [if_pos rfl]
        refine ⟨W mm, fun σ' H' h => ⟨mm, Nat.lt_succ_self _, h⟩, ?_⟩
        cases h3 : fb e3 with
        | none => simp only [h3] at lc; cases lc
        | some x3 =>
          refine kb m E G0 G3 e3 σ2 H3 x3 _ Rx h3 ?_
          cases x3 with
          | nx e4 =>
            simp only [h3] at lc
            exact fun G4 σ4 H4 s4 R4 => ⟨G4, e4, R4, s2.trans (S3.gg.trans s4), lc⟩
          | ct e4 =>
            simp only [h3] at lc
            exact fun G4 σ4 H4 s4 R4 => ⟨G4, e4, R4, s2.trans (S3.gg.trans s4), lc⟩
          | bk e4 =>
            simp only [h3, Option.some.injEq] at lc
            subst lc
            exact fun G4 σ4 H4 s4 R4 => P G4 σ4 H4 (s2.trans (S3.gg.trans s4)) R4
          | rt r e4 =>
            simp only [h3, Option.some.injEq] at lc
            subst lc
            exact fun v G4 σ4 H4 s4 R4 V => P v G4 σ4 H4 (s2.trans (S3.gg.trans s4)) R4 V
/-! ### a list of one's own is left as it is from here on -/
def fzE (j : Nat) (e : Ev) : Ev := match e[j]? with
  | some (some (.ac ds)) => e.set j (some (.im (.list ds)))
  | _ => e
theorem Rz.fz {K : PySem.W.Frag} {m : Option Addr} {E : Ef} {G0 G H : Hp} {e : Ev} {σ : St} {j : Nat} (R : Rz K m E G0 G e σ H) (hj : j ≠ 0) : ∃ G', Same G G' ∧ Rz K m E G0 G' (fzE j e) σ H := by
  unfold fzE
  split
  · rename_i ds h
    obtain ⟨p, ws, h1, h2, h3, h4, h5⟩ := R.r.ac j ds h
    have hE : E p = none := by
      rcases h5 with h5 | h5
      · exact h5
      · exact absurd h5.2 hj
    have s1 : Same G (upd G p (.lst ws)) := same_new h2
    have hl : j < e.length := (List.getElem?_eq_some_iff.mp h).1
    refine ⟨upd G p (.lst ws), s1, ⟨⟨R.r.gg.trans s1, fun b o q => ?_, R.r.eh, R.r.mh, fun b b1 b2 => ?_, by rw [List.length_set]; exact R.r.len, fun i d q => ?_, fun i di q => ?_, fun i k di dk p' q1 q2 q3 q4 => ?_, fun i dss q => ?_⟩, fun p' z => ?_⟩⟩
    · by_cases z : b = p
      · rw [z, upd_same] at q
        rw [z, h3]
        exact q
      · rw [upd_ne z] at q
        exact R.r.gh b o q
    · have z : b ≠ p := fun z => b2 (by rw [z]; exact hE)
      rw [upd_ne z]
      exact R.r.nw b b1 b2
    · rw [set_get] at q
      by_cases z : j = i ∧ i < e.length
      · rw [if_pos z] at q
        cases q
        rw [← z.1]
        exact ⟨_, h1, .lst (.inl (.inl upd_same)) (dpAll_same s1 h4)⟩
      · rw [if_neg z] at q
        obtain ⟨v, a1, a2⟩ := R.r.im i d q
        exact ⟨v, a1, dp_same s1 a2⟩
    · rw [set_get] at q
      by_cases z : j = i ∧ i < e.length
      · rw [if_pos z] at q
        cases q
      · rw [if_neg z] at q
        obtain ⟨p', ws', a1, a2, a3, a4, a5⟩ := R.r.ac i di q
        have n : p' ≠ p := fun y => by
          rw [y] at a1
          have := R.r.inj j i ds di p h q h1 a1
          exact z ⟨this, by rw [← this]; exact hl⟩
        exact ⟨p', ws', a1, by rw [upd_ne n]; exact a2, a3, dpAll_same s1 a4, a5⟩
    · rw [set_get] at q1 q2
      by_cases z : j = i ∧ i < e.length
      · rw [if_pos z] at q1
        cases q1
      · rw [if_neg z] at q1
        by_cases z : j = k ∧ k < e.length
        · rw [if_pos z] at q2
          cases q2
        · rw [if_neg z] at q2
          exact R.r.inj i k di dk p' q1 q2 q3 q4
    · rw [set_get] at q
      by_cases z : j = i ∧ i < e.length
      · rw [if_pos z] at q
        cases q
      · rw [if_neg z] at q
        exact (R.r.nl i dss q).mono s1
    · obtain ⟨z1, z2⟩ := R.z p' z
      rw [List.getElem?_set_ne hj]
      exact ⟨z1, z2⟩
  · exact ⟨G, Same.refl _, R⟩
def s_fz (j : Nat) (f : Fs) : Fs := fun e => f (fzE j e)
theorem SD.fz (j : Nat) (h : SD X st f) (hj : j ≠ 0 := by decide) : SD X st (s_fz j f) := by
  obtain ⟨t, p, k⟩ := h
  refine ⟨_, p, fun m E G0 G e σ H fl D R q P => ?_⟩
  obtain ⟨G', s, R'⟩ := R.fz hj
  exact k m E G0 G' _ σ H fl D R' q (P.aft s)
end
end DL
namespace DL
open PySem PySem.Spec PyProof.Rows L2

/-! ### a list of one's own is written -/
section
variable {K : PySem.W.Frag} {m : Option Addr} {E : Ef} {G0 G H : Hp} {e : Ev} {σ : St} {i : Nat} {p : Addr} {d0 ds : List PyData} {ws : List V}
theorem Rl.put (R : Rl K m E G0 G e σ H) (h : e[i]? = some (some (.ac d0))) (hp : σ[i]? = some (some (.ref p))) (q : DpAll K G ws ds) :
    Rl K m E G0 G (e.set i (some (.ac ds))) σ (upd H p (.lst ws)) ∧ Stp σ G H e G (upd H p (.lst ws)) (e.set i (some (.ac ds))) := by
  obtain ⟨p', w0, h1, h2, h3, h4, h5⟩ := R.ac i d0 h
  rw [hp] at h1
  cases h1
  have hl : i < e.length := (List.getElem?_eq_some_iff.mp h).1
  refine ⟨⟨R.gg, fun b o z => ?_, fun b o z1 z2 => ?_, fun b z => ⟨(R.mh b z).1, ?_⟩, R.nw, by rw [List.length_set]; exact R.len, fun j d z => ?_, fun j dj z => ?_, fun j k dj dk p' q1 q2 q3 q4 => ?_, fun j dss z => ?_⟩,
    Same.refl _, fun _ z _ => z, fun a o z1 z2 => ?_, fun j => ?_, fun a z => ?_⟩
  · rw [upd_ne (ne_of_none z h2)]
    exact R.gh b o z
  · have n : b ≠ p := fun y => by
      rcases h5 with h5 | h5
      · rw [y, h5] at z1
        cases z1
      · exact z2 (by rw [y]; exact h5.1)
    rw [upd_ne n]
    exact R.eh b o z1 z2
  · by_cases n : b = p
    · rw [n, upd_same]
      simp
    · rw [upd_ne n]
      exact (R.mh b z).2
  · rw [set_get] at z
    by_cases y : i = j ∧ j < e.length
    · rw [if_pos y] at z
      cases z
    · rw [if_neg y] at z
      exact R.im j d z
  · rw [set_get] at z
    by_cases y : i = j ∧ j < e.length
    · rw [if_pos y] at z
      cases z
      rw [← y.1]
      exact ⟨p, ws, hp, h2, upd_same, q, h5⟩
    · rw [if_neg y] at z
      obtain ⟨p', ws', a1, a2, a3, a4, a5⟩ := R.ac j dj z
      have n : p' ≠ p := fun y2 => by
        rw [y2] at a1
        have := R.inj i j d0 dj p h z hp a1
        exact y ⟨this, by rw [← this]; exact hl⟩
      exact ⟨p', ws', a1, a2, by rw [upd_ne n]; exact a3, a4, a5⟩
  · have old : ∀ {j : Nat} {dj : List PyData}, (e.set i (some (.ac ds)))[j]? = some (some (.ac dj)) → ∃ dj', e[j]? = some (some (.ac dj')) := fun {j dj} z => by
      rw [set_get] at z
      by_cases y : i = j ∧ j < e.length
      · exact ⟨d0, by rw [← y.1]; exact h⟩
      · rw [if_neg y] at z
        exact ⟨dj, z⟩
    obtain ⟨d1, o1⟩ := old q1
    obtain ⟨d2, o2⟩ := old q2
    exact R.inj j k d1 d2 p' o1 o2 q3 q4
  · rw [set_get] at z
    by_cases y : i = j ∧ j < e.length
    · rw [if_pos y] at z
      cases z
    · rw [if_neg y] at z
      exact R.nl j dss z
  · have n : a ≠ p := fun y => z2 ⟨i, d0, h, by rw [y]; exact hp⟩
    rw [upd_ne n]
    exact z1
  · rw [set_get]
    by_cases y : i = j ∧ j < e.length
    · rw [if_pos y, ← y.1, h]
      rfl
    · rw [if_neg y]
  · by_cases n : a = p
    · rw [n, upd_same]
      simp
    · rw [upd_ne n]
      exact z
end
section
variable {X : Cx} {a b : Expr} {fa fb : Fe} {pos : Pos}
def x_app (i : Nat) (fa : Fe) : Fe := fun e => if isAc e[i]? = true then (match fa e with
  | some (r, e1) => (match imR (frzR r), e1[i]? with
    | some d, some (some (.ac ds)) => if okLen (ds.length + 1) = true then some (.im .none, e1.set i (some (.ac (ds ++ [d])))) else none
    | _, _ => none)
  | none => none) else none
theorem frz_im {r : Rs} {d : PyData} (h : imR (frzR r) = some d) : frzR r = .im d := by
  cases r with
  | im d =>
    cases h
    rfl
  | ac ds =>
    cases h
    rfl
  | br i => cases h
theorem Rl.acP {K : PySem.W.Frag} {m : Option Addr} {E : Ef} {G0 G H : Hp} {e : Ev} {σ : St} {i : Nat} (R : Rl K m E G0 G e σ H) (h : isAc e[i]? = true) :
    ∃ p ws, σ[i]? = some (some (.ref p)) ∧ H p = some (.lst ws) := by
  obtain ⟨ds', q⟩ := isAc_iff.mp h
  obtain ⟨p, ws, h1, h2, h3, _⟩ := R.ac i ds' q
  exact ⟨p, ws, h1, h3⟩
theorem len_lt {n : Nat} (h : okLen (n + 1) = true) : n < sizeLine := by
  have := okLen_ok h
  omega
/-- xs.append(e) -/
theorem ed_app (i : Nat) {x : Str} {np apos : Pos} (ha : ED X a fa) (hN : X.N[i]? = some x := by rfl)
    (hv : Vis X.env.scope x := by first | exact Or.inl rfl | exact Or.inr (Or.inl rfl) | exact Or.inr (Or.inr rfl)) (hd : (x == ("__debug__" : Str)) = false := by decide) (hcd : (x == ("__classdict__" : Str)) = false := by decide)
    (hbase : attributeBase (.Name x np) "append" X.env (eval (.Name x np) X.env) = eval (.Name x np) X.env := by rfl)
    (hfew : ((backTo pos (starEach [a] X.env)).all (fun x => !x.1) && (backToKw pos (keywordEach [] X.env)).all (fun x => x.1.isSome)
      && decide (([a] : List Expr).length + ([] : List Keyword).length + (if ([] : List Keyword).isEmpty then 0 else 1) < 30)) = true := by rfl)
    (hline : (apos.endLine == pos.line) = true := by rfl) (hs : starEach [a] X.env = (false, eval a X.env) :: starEach [] X.env := by rfl) (hplain : (backTo pos (starEach [] X.env)).any (·.1) = false := by rfl) :
    ED X (.Call (.Attribute (.Name x np) "append" apos) [a] [] pos) (x_app i fa) := by
  obtain ⟨t, p, k⟩ := ha
  refine ⟨_, pe_bm PySem.F.plainAttrs_list PySem.F.slot_list_append PySem.F.type_list_append mt_append (pe_var hN hv hd hcd) (pa_cons p pa_nil hs) hbase hfew hline hs hplain, fun m E G0 G e σ H r e' Q R q P => ?_⟩
  unfold x_app at q
  by_cases h0 : isAc e[i]? = true
  · rw [if_pos h0] at q
    obtain ⟨l, w0, hσ, hl⟩ := R.acP h0
    refine ⟨.ref l, hσ, .inl ⟨rfl, w0, .inl (.inl hl)⟩, ?_⟩
    split at q
    · rename_i r1 e1 h1
      split at q
      · rename_i d ds h2 h3
        by_cases h4 : okLen (ds.length + 1) = true
        · rw [if_pos h4] at q
          cases q
          refine k m E G0 G e σ H r1 e1 _ R h1 fun v G1 H1 R1 S1 V1 N1 => ?_
          obtain ⟨G2, R2, S2, s2, V2⟩ := R1.freeze S1 V1 N1
          rw [frz_im h2] at V2
          obtain ⟨p', ws, q1, q2, q3, q4, q5⟩ := R2.ac i ds h3
          rw [hσ] at q1
          cases q1
          obtain ⟨R3, S3⟩ := R2.put h3 hσ (dpAll_app q4 (.cons V2 .nil))
          exact ⟨l, ws, v, rfl, rfl, q3, by rw [dpAll_len q4]; exact len_lt h4, P .non G2 _ R3 (S2.trans S3) .non True.intro⟩
        · rw [if_neg h4] at q
          cases q
      · cases q
    · cases q
  · rw [if_neg h0] at q
    cases q
/-! xs.extend(ys), ys a new list -/
def x_ext (i : Nat) (fa : Fe) : Fe := fun e => if isAc e[i]? = true then (match fa e with
  | some (.ac es, e1) => (match e1[i]? with
    | some (some (.ac ds)) => if okLen (ds.length + es.length) = true then some (.im .none, e1.set i (some (.ac (ds ++ es)))) else none
    | _ => none)
  | _ => none) else none
theorem ed_ext (i : Nat) {x : Str} {np apos : Pos} (ha : ED X a fa) (hN : X.N[i]? = some x := by rfl)
    (hv : Vis X.env.scope x := by first | exact Or.inl rfl | exact Or.inr (Or.inl rfl) | exact Or.inr (Or.inr rfl)) (hd : (x == ("__debug__" : Str)) = false := by decide) (hcd : (x == ("__classdict__" : Str)) = false := by decide)
    (hbase : attributeBase (.Name x np) "extend" X.env (eval (.Name x np) X.env) = eval (.Name x np) X.env := by rfl)
    (hfew : ((backTo pos (starEach [a] X.env)).all (fun x => !x.1) && (backToKw pos (keywordEach [] X.env)).all (fun x => x.1.isSome)
      && decide (([a] : List Expr).length + ([] : List Keyword).length + (if ([] : List Keyword).isEmpty then 0 else 1) < 30)) = true := by rfl)
    (hline : (apos.endLine == pos.line) = true := by rfl) (hs : starEach [a] X.env = (false, eval a X.env) :: starEach [] X.env := by rfl) (hplain : (backTo pos (starEach [] X.env)).any (·.1) = false := by rfl) :
    ED X (.Call (.Attribute (.Name x np) "extend" apos) [a] [] pos) (x_ext i fa) := by
  obtain ⟨t, p, k⟩ := ha
  refine ⟨_, pe_bm PySem.F.plainAttrs_list PySem.F.slot_list_extend PySem.F.type_list_extend mt_extend (pe_var hN hv hd hcd) (pa_cons p pa_nil hs) hbase hfew hline hs hplain, fun m E G0 G e σ H r e' Q R q P => ?_⟩
  unfold x_ext at q
  by_cases h0 : isAc e[i]? = true
  · rw [if_pos h0] at q
    obtain ⟨l, w0, hσ, hl⟩ := R.acP h0
    refine ⟨.ref l, hσ, .inl ⟨rfl, w0, .inl (.inl hl)⟩, ?_⟩
    split at q
    · rename_i es e1 h1
      split at q
      · rename_i ds h3
        by_cases h4 : okLen (ds.length + es.length) = true
        · rw [if_pos h4] at q
          cases q
          refine k m E G0 G e σ H _ e1 _ R h1 fun v G1 H1 R1 S1 V1 N1 => ?_
          obtain ⟨b, zs, rfl, b1, b2, b3, b4, b5⟩ := V1
          obtain ⟨p', ws, q1, q2, q3, q4, q5⟩ := R1.ac i ds h3
          rw [hσ] at q1
          cases q1
          obtain ⟨R3, S3⟩ := R1.put h3 hσ (dpAll_app q4 b4)
          exact ⟨l, b, ws, zs, rfl, rfl, q3, b3, by rw [dpAll_len q4, dpAll_len b4]; exact okLen_ok h4, P .non G1 _ R3 (S1.trans S3) .non True.intro⟩
        · rw [if_neg h4] at q
          cases q
      · cases q
    · cases q
  · rw [if_neg h0] at q
    cases q
/-! xs[k] = v -/
def s_put (i : Nat) (fv fk : Fe) : Fs := fun e => match fv e with
  | some (r, e1) => if isAc e1[i]? = true then (match imR (frzR r), fk e1 with
    | some d, some (.im (.int k), e2) => (match e2[i]? with
      | some (some (.ac ds)) => (match ixN ds.length k with
        | some j => some (.nx (e2.set i (some (.ac (ds.set j d)))))
        | none => none)
      | _ => none)
    | _, _ => none) else none
  | none => none
theorem sd_put (i : Nat) {x : Str} {np tp : Pos} (hv' : ED X a fa) (hk : ED X b fb) (hN : X.N[i]? = some x := by rfl)
    (hv : Vis X.env.scope x := by first | exact Or.inl rfl | exact Or.inr (Or.inl rfl) | exact Or.inr (Or.inr rfl)) (hd : (x == ("__debug__" : Str)) = false := by decide) (hcd : (x == ("__classdict__" : Str)) = false := by decide)
    (hs : swapsWithSole [.Subscript (.Name x np) b tp] a pos.line X.env = pure false := by rfl) (hw : swappedStores [.Subscript (.Name x np) b tp] a X.env = pure none := by rfl)
    (h1 : (assignEach [.Subscript (.Name x np) b tp] X.env).map (·.2) = [assign (.Subscript (.Name x np) b tp) X.env] := by rfl)
    (hz : ∀ v, assign (.Subscript (.Name x np) b tp) X.env v = (do
      let ov ← holding [v] (eval (.Name x np) X.env)
      let iv ← holding [v, ov] (eval b X.env)
      standAt tp
      holding [v, ov, iv] (setItem ov iv v)
      release [v, ov, iv] []) := by intros; rfl) : SD X (.Assign [.Subscript (.Name x np) b tp] a pos) (s_put i fa fb) := by
  obtain ⟨t, p, k⟩ := hv'
  obtain ⟨t2, p2, k2⟩ := hk
  refine ⟨_, ps_asg p (pg_sub (pe_var hN hv hd hcd) p2 set_list hz) hs hw h1, fun m E G0 G e σ H fl D R q P => ?_⟩
  unfold s_put at q
  split at q
  · rename_i r e1 h1
    by_cases h0 : isAc e1[i]? = true
    · rw [if_pos h0] at q
      split at q
      · rename_i d kk e2 h2 h3
        split at q
        · rename_i ds h4
          split at q
          · rename_i j h5
            cases q
            refine k m E G0 G e σ H r e1 _ R.r h1 fun v G1 H1 R1 S1 V1 N1 => ?_
            obtain ⟨G2, R2, S2, s2, V2⟩ := R1.freeze S1 V1 N1
            rw [frz_im h2] at V2
            obtain ⟨l, w0, hσ, hl⟩ := R2.acP h0
            refine ⟨.ref l, hσ, ?_⟩
            refine k2 m E G0 G2 e1 σ H1 _ e2 _ R2 h3 fun u G3 H3 R3 S3 V3 N3 => ?_
            cases V3
            obtain ⟨p', ws, q1, q2, q3, q4, q5⟩ := R3.ac i ds h4
            rw [hσ] at q1
            cases q1
            obtain ⟨R4, S4⟩ := R3.put h4 hσ (dpAll_set j q4 (dp_same S3.gg V2))
            exact ⟨l, ws, kk, j, rfl, rfl, q3, by rw [dpAll_len q4]; exact h5, P G3 σ _ (S2.gg.trans S3.gg) (R.exp R4 (S2.trans (S3.trans S4)))⟩
          · cases q
        · cases q
      · cases q
    · rw [if_neg h0] at q
      cases q
  · cases q
/-! xs[k] op= v, ints -/
theorem get_list : PGet X (rIxL X.K) := by
  rintro pins s σ H o i ov iv Q I ro ri ⟨p, xs, kk, z, rfl, rfl, hq, he, q⟩
  cases ro
  obtain ⟨t', rfl⟩ := ri
  obtain ⟨us, vals, place, small⟩ := I.list hq
  have line := line63
  have same := vals.length
  have here : ∀ j : Nat, xs[j]? = some z → ∃ u, us.toArray[j]? = some u ∧ EP X pins σ Q u s := fun j hj => by
    obtain ⟨u, hu, ru⟩ := vals.get hj
    exact ⟨u, by rw [List.getElem?_toArray]; exact hu, z, H, I, ru, q⟩
  unfold atI ixN at he
  split at he
  · split at he
    · rename_i front short
      obtain ⟨u, hu, done⟩ := here kk.toNat he
      exact wpAny_getItem_list place.isList front (by omega) hu done
    · cases he
  · split at he
    · rename_i back deep
      obtain ⟨u, hu, done⟩ := here (kk + xs.length).toNat he
      have size : us.toArray.size = xs.length := by
        rw [List.size_toArray]
        exact same.symm
      exact wpAny_getItem_list_neg place.isList (by omega) (by rw [size]; exact deep) (by omega) (by rw [size]; exact hu) done
    · cases he
/-- g: the operator -/
def s_augI (g : Int → Int → Int) (i : Nat) (fk fv : Fe) : Fs := fun e => if isAc e[i]? = true then (match fk e with
  | some (.im (.int k), e1) => (match e1[i]? with
    | some (some (.ac ds)) => (match atI ds k, fv e1 with
      | some (.int a), some (.im (.int b), e2) => (match e2[i]? with
        | some (some (.ac ds2)) => (match ixN ds2.length k with
          | some j => some (.nx (e2.set i (some (.ac (ds2.set j (.int (g a b)))))))
          | none => none)
        | _ => none)
      | _, _ => none)
    | _ => none)
  | _ => none) else none
theorem sd_augI {op : Operator} (g : Int → Int → Int) (ho : PIp X op (ipI g)) (i : Nat) {x : Str} {np tp : Pos} (hk : ED X b fb) (hv' : ED X a fa) (hN : X.N[i]? = some x := by rfl)
    (hv : Vis X.env.scope x := by first | exact Or.inl rfl | exact Or.inr (Or.inl rfl) | exact Or.inr (Or.inr rfl)) (hd : (x == ("__debug__" : Str)) = false := by decide) (hcd : (x == ("__classdict__" : Str)) = false := by decide)
    (hz : ∀ ov iv new, augStore b ov iv new = (do holding [new, ov, iv] (setItem ov iv new); release [new, ov, iv] []; pure .next) := by intros; rfl) : SD X (.AugAssign (.Subscript (.Name x np) b tp) op a pos) (s_augI g i fb fa) := by
  obtain ⟨t, p, k⟩ := hv'
  obtain ⟨t2, p2, k2⟩ := hk
  refine ⟨_, ps_augS (pe_var hN hv hd hcd) p2 get_list p ho set_list hz, fun m E G0 G e σ H fl D R q P => ?_⟩
  unfold s_augI at q
  by_cases h0 : isAc e[i]? = true
  · rw [if_pos h0] at q
    obtain ⟨l, w0, hσ, hl⟩ := R.r.acP h0
    refine ⟨.ref l, hσ, ?_⟩
    split at q
    · rename_i kk e1 h1
      split at q
      · rename_i ds h2
        split at q
        · rename_i a1 b1 e2 h3 h4
          split at q
          · rename_i ds2 h5
            split at q
            · rename_i j h6
              cases q
              refine k2 m E G0 G e σ H _ e1 _ R.r h1 fun u G1 H1 R1 S1 V1 N1 => ?_
              cases V1
              obtain ⟨p', ws, q1, q2, q3, q4, q5⟩ := R1.ac i ds h2
              rw [hσ] at q1
              cases q1
              obtain ⟨z, z1, z2⟩ := dpAll_atI q4 h3
              cases z2
              refine ⟨l, ws, kk, .int a1, rfl, rfl, .inl (.inl q3), z1, ?_⟩
              refine k m E G0 G1 e1 σ H1 _ e2 _ R1 h4 fun u G2 H2 R2 S2 V2 N2 => ?_
              cases V2
              refine ⟨a1, b1, rfl, rfl, ?_⟩
              obtain ⟨p', ws2, q1, q2, q3, q4, q5⟩ := R2.ac i ds2 h5
              rw [hσ] at q1
              cases q1
              obtain ⟨R4, S4⟩ := R2.put h5 hσ (dpAll_set j q4 (.int (g a1 b1)))
              exact ⟨l, ws2, kk, j, rfl, rfl, q3, by rw [dpAll_len q4]; exact h6, P G2 σ _ (S1.gg.trans S2.gg) (R.exp R4 (S1.trans (S2.trans S4)))⟩
            · cases q
          · cases q
        · cases q
      · cases q
    · cases q
  · rw [if_neg h0] at q
    cases q
/-! x op= v, ints -/
def s_aug (g : Int → Int → Int) (i : Nat) (fv : Fe) : Fs := fun e => match e[i]? with
  | some (some (.im (.int a))) => (match fv e with
    | some (.im (.int b), e1) => if okS [i] e1 = true then some (.nx (e1.set i (some (.im (.int (g a b)))))) else none
    | _ => none)
  | _ => none
theorem sd_aug {op : Operator} (g : Int → Int → Int) (ho : PIp X op (ipI g)) (i : Nat) {x : Str} {np : Pos} (hNd : X.N.Nodup) (hv' : ED X a fa) (hN : X.N[i]? = some x := by rfl)
    (hx : Loc X.env.scope x := by first | exact .inl rfl | exact .inr rfl) (hf : X.fn x = true ∨ X.env.scope.names.lookup x = some .local := by first | exact .inl rfl | exact .inr rfl | assumption) : SD X (.AugAssign (.Name x np) op a pos) (s_aug g i fa) := by
  obtain ⟨t, p, k⟩ := hv'
  refine ⟨_, ps_aug hNd hN hx p ho hf, fun m E G0 G e σ H fl D R q P => ?_⟩
  unfold s_aug at q
  split at q
  · rename_i a1 h1
    split at q
    · rename_i b1 e1 h2
      by_cases ok : okS [i] e1 = true
      · rw [if_pos ok] at q
        cases q
        obtain ⟨v, v1, v2⟩ := R.r.im i _ h1
        cases v2
        refine ⟨_, v1, ?_⟩
        refine k m E G0 G e σ H _ e1 _ R.r h2 fun u G1 H1 R1 S1 V1 N1 => ?_
        cases V1
        exact ⟨a1, b1, rfl, rfl, P G1 _ H1 S1.gg ((R.exp R1 S1).setI (.int _) ok)⟩
      · rw [if_neg ok] at q
        cases q
    · cases q
  · cases q
/-! a target of names = value -/
def s_asg (γ : PyData → Ev → Option Ev) (S : List Nat) (f : Fe) : Fs := fun e => match f e with
  | some (r, e1) => if okS S e1 = true then (match imR (frzR r) with
    | some d => (match γ d e1 with
      | some e2 => some (.nx e2)
      | none => none)
    | none => none) else none
  | none => none
theorem sd_asg {tg : Expr} {S : List Nat} {γ : PyData → Ev → Option Ev} (hv : ED X a fa) (hg : GD X tg S γ) (hs : swapsWithSole [tg] a pos.line X.env = pure false := by rfl) (hw : swappedStores [tg] a X.env = pure none := by rfl)
    (h1 : (assignEach [tg] X.env).map (·.2) = [assign tg X.env] := by rfl) : SD X (.Assign [tg] a pos) (s_asg γ S fa) := by
  obtain ⟨t, p, k⟩ := hv
  obtain ⟨g, pg, kg⟩ := hg
  refine ⟨_, ps_asg p pg hs hw h1, fun m E G0 G e σ H fl D R q P => ?_⟩
  unfold s_asg at q
  split at q
  · rename_i r e1 h1
    by_cases ok : okS S e1 = true
    · rw [if_pos ok] at q
      split at q
      · rename_i d h2
        split at q
        · rename_i e2 h3
          cases q
          refine k m E G0 G e σ H r e1 _ R.r h1 fun v G1 H1 R1 S1 V1 N1 => ?_
          obtain ⟨G2, R2, S2, s2, V2⟩ := R1.freeze S1 V1 N1
          rw [frz_im h2] at V2
          have Rx := R.exp R2 S2
          refine kg m E G0 G2 e1 σ H1 v d e2 _ R2 V2 h3 fun σ3 R3 out sl el ac1 => ?_
          exact P G2 σ3 H1 S2.gg ⟨R3, fun p z => by
            obtain ⟨z1, z2⟩ := Rx.z p z
            obtain ⟨o1, o2⟩ := out 0 (okS_no ok z1)
            rw [o1, o2]
            exact ⟨z1, z2⟩⟩
        · cases q
      · cases q
    · rw [if_neg ok] at q
      cases q
  · cases q
end
end DL
namespace DL
open PySem PySem.Spec PyProof.Rows L2

/-! ### what a def of the text keeps -/
def VrF (K : PySem.W.Frag) (G H H' : Hp) (v : V) : Rs → Prop
  | .im d => Dp K G v d
  | .ac ds => ∃ p ws, v = .ref p ∧ H p = none ∧ G p = none ∧ H' p = some (.lst ws) ∧ DpAll K G ws ds
  | .br _ => False
/-- n data in, a result out -/
def spD (K : PySem.W.Frag) (n : Nat) (φ : List PyData → Option Rs) : Sp := fun vs H Q _ => ∃ G ds r, Same G H ∧ DpAll K G vs ds ∧ vs.length = n ∧ φ ds = some r ∧
  ∀ v G' H', Same G G' → Same G' H' → Same H H' → (∀ a, G a = none → H a ≠ none → G' a = none) → VrF K G' H H' v r → Q v H'
/-- a list that is written, n data in; a result and the list out -/
def spM (K : PySem.W.Frag) (n : Nat) (φ : List PyData → List PyData → Option (Rs × List PyData)) : Sp := fun vs H Q _ => ∃ G p ws c us ds r c', Same G H ∧ vs = .ref p :: us ∧ H p = some (.lst ws) ∧ G p = none ∧ DpAll K G ws c ∧ DpAll K G us ds ∧ us.length = n ∧ φ c ds = some (r, c') ∧
  ∀ v G' H' ws', Same G G' → Same G' H' → (∀ a o, H a = some o → a ≠ p → H' a = some o) → H' p = some (.lst ws') → DpAll K G' ws' c' → (∀ a, G a = none → H a ≠ none → G' a = none) → VrF K G' H H' v r → Q v H'
/-- a def of the module that is kept: where it lies, what it promises, how it is called -/
inductive Kf (P : Program) (w : World) (K : PySem.W.Frag) (mg : Str → Option Value) (base : Heap) (k : Nat) (x : Str) (sp : Sp) (dvs : List V) : Prop where
  | kept (at_ : Addr) (fd : FuncData) (names : List Str) (given : List Value) (fn : FnOk P w K mg base CX0 k at_ fd names sp) (here : mg x = some (.ref at_)) (stays : PySem.W.keepIn K (.ref at_) = true) (binds : Binds K fd names given) (vals : Vals dvs given)
/-! ### the calls -/
def x_call (φ : List PyData → Option Rs) (dds : List PyData) (fa : Fa) : Fe := fun e => match argsI fa e with
  | some (ds, e1) => (match φ (ds ++ dds) with
    | some (.im d) => some (.im d, e1)
    | some (.ac cs) => some (.ac cs, e1)
    | _ => none)
  | none => none
section
variable {K : PySem.W.Frag} {m : Option Addr} {E : Ef} {G0 G G' H H' : Hp} {e : Ev} {σ : St} {v : V} {r : Rs}
/-- behind a call that writes nothing -/
theorem Rl.called (R : Rl K m E G0 G e σ H) (s1 : Same G G') (s2 : Same G' H') (s3 : Same H H') (n : ∀ a, G a = none → H a ≠ none → G' a = none) : Rl K m E G0 G' e σ H' ∧ Stp σ G H e G' H' e := by
  have th : ∀ a, H a ≠ none → H' a ≠ none := fun a z => by
    cases q : H a with
    | none => exact absurd q z
    | some o => rw [s3 a o q]; simp
  refine ⟨⟨R.gg.trans s1, s2, fun a o z1 z2 => s3 a o (R.eh a o z1 z2), fun a z => ⟨(R.mh a z).1, th a (R.mh a z).2⟩, fun a z1 z2 => n a (R.nw a z1 z2) ?_, R.len, fun i d q => ?_, fun i ds q => ?_, R.inj, fun i dss q => (R.nl i dss q).mono s1⟩, s1, n, fun a o z _ => s3 a o z, fun _ => rfl, th⟩
  · by_cases y : m = some a
    · exact (R.mh a y).2
    · cases q : E a with
      | none => exact absurd q z2
      | some o => rw [R.eh a o q y]; simp
  · obtain ⟨v, h1, h2⟩ := R.im i d q
    exact ⟨v, h1, dp_same s1 h2⟩
  · obtain ⟨p, ws, h1, h2, h3, h4, h5⟩ := R.ac i ds q
    exact ⟨p, ws, h1, n p h2 (by rw [h3]; simp), s3 p _ h3, dpAll_same s1 h4, h5⟩
theorem Rl.vrf (R : Rl K m E G0 G e σ H) (h : VrF K G' H H' v r) : Vr K E G' H' σ e v r ∧ Nw H v r := by
  cases r with
  | im d => exact ⟨h, True.intro⟩
  | br i => exact h.elim
  | ac ds =>
    obtain ⟨p, ws, rfl, h1, h2, h3, h4⟩ := h
    obtain ⟨f1, f2, f3, f4⟩ := R.fresh h1
    exact ⟨⟨p, ws, rfl, f2, h2, h3, h4, f3⟩, fun q z => by
      cases z
      exact h1⟩
end
def dvsD (K : PySem.W.Frag) (dvs : List V) (dds : List PyData) : Prop := ∀ G : Hp, DpAll K G dvs dds
theorem dvs0 {K : PySem.W.Frag} : dvsD K [] [] := fun _ => .nil
theorem dvsI {K : PySem.W.Frag} {i : Int} {vs : List V} {ds : List PyData} (h : dvsD K vs ds) : dvsD K (.int i :: vs) (.int i :: ds) := fun G => .cons (.int i) (h G)
theorem dvsN {K : PySem.W.Frag} {vs : List V} {ds : List PyData} (h : dvsD K vs ds) : dvsD K (.non :: vs) (.none :: ds) := fun G => .cons .non (h G)
theorem dvsB {K : PySem.W.Frag} {b : Bool} {vs : List V} {ds : List PyData} (h : dvsD K vs ds) : dvsD K (.bl b :: vs) (.bool b :: ds) := fun G => .cons (.bl b) (h G)
section
variable {X : Cx} {a : Expr} {es : List Expr} {fa : Fa} {p pos : Pos} {x : Str} {j k n : Nat} {dvs : List V} {dds : List PyData}
theorem call_ok {φ : List PyData → Option Rs} {t : TA} (hd : dvsD X.K dvs dds) (hn : ∀ ds, (φ ds).isSome = true → ds.length = n)
    (kk : ∀ (m : Option Addr) (E : Ef) (G0 G : Hp) (e : Ev) (σ : St) (H : Hp) (rs : List Rs) (e' : Ev) (Q : List V → Hp → Prop),
    Rl X.K m E G0 G e σ H → fa e = some (rs, e') → (∀ vs G' H', Rl X.K m E G0 G' e' σ H' → Stp σ G H e G' H' e' → VrAll X.K E G' H' σ e' vs rs → Q vs H') → t σ H Q)
    (m : Option Addr) (E : Ef) (G0 G : Hp) (e : Ev) (σ : St) (H : Hp) (rr : Rs) (e' : Ev) (Q : VK) (R : Rl X.K m E G0 G e σ H) (q : x_call φ dds fa e = some (rr, e')) (P : Po X.K m E G0 σ G H e rr e' Q) : tCall (spD X.K n φ) dvs E0 t σ H Q := by
  unfold x_call at q
  cases h1 : argsI fa e with
  | none => simp only [h1] at q; cases q
  | some z =>
    obtain ⟨ds, e1⟩ := z
    simp only [h1] at q
    obtain ⟨rs, q1, q2⟩ := argsI_ok h1
    have main : ∀ r, φ (ds ++ dds) = some r → r = rr ∧ e1 = e' → tCall (spD X.K n φ) dvs E0 t σ H Q := fun r h2 ⟨z1, z2⟩ => by
      subst z1 z2
      refine kk m E G0 G e σ H rs e1 _ R q1 fun vs G1 H1 R1 S1 V1 => ?_
      have D1 := vr_imAll V1 q2
      have D2 := dpAll_app D1 (hd G1)
      refine ⟨G1, ds ++ dds, r, R1.gh, D2, ?_, h2, fun v G' H' s1 s2 s3 nw vr => ?_⟩
      · rw [dpAll_len D2]
        exact hn _ (by rw [h2]; rfl)
      · obtain ⟨R2, S2⟩ := R1.called s1 s2 s3 nw
        obtain ⟨V2, N2⟩ := R1.vrf vr
        exact P v G' H' R2 (S1.trans S2) V2 (nw_back S1 v N2)
    cases h2 : φ (ds ++ dds) with
    | none => simp only [h2] at q; cases q
    | some r =>
      cases r with
      | im d =>
        simp only [h2, Option.some.injEq, Prod.mk.injEq] at q
        exact main _ h2 q
      | ac d =>
        simp only [h2, Option.some.injEq, Prod.mk.injEq] at q
        exact main _ h2 q
      | br d => simp only [h2] at q; cases q
theorem ed_call {φ : List PyData → Option Rs} (F : Kf X.prog X.w X.K X.mg X.base k x (spD X.K n φ) dvs) (hr : Room j X.A) (hk : k ≤ j) (hd : dvsD X.K dvs dds) (hn : ∀ ds, (φ ds).isSome = true → ds.length = n) (h : AD X (a :: es) fa) (hg : Gl X x := by rfl)
    (hdb : (x == ("__debug__" : Str)) = false := by decide) (he : starEach (a :: es) X.env = (false, eval a X.env) :: starEach es X.env := by rfl) (hpl : (backTo pos (starEach es X.env)).any (·.1) = false := by rfl) :
    ED X (.Call (.Name x p) (a :: es) [] pos) (x_call φ dds fa) := by
  obtain ⟨f, fd, ps, ds, F, hm, kp, hb, hv⟩ := F
  obtain ⟨t, pa, kk⟩ := h
  exact ⟨_, pe_call F (hr.mono hk) hg hm kp hb hv (E := E0) (fun _ _ _ _ _ _ _ z => z.elim) pa hdb he hpl, call_ok hd hn kk⟩
theorem ed_call0 {φ : List PyData → Option Rs} (F : Kf X.prog X.w X.K X.mg X.base k x (spD X.K n φ) dvs) (hr : Room j X.A) (hk : k ≤ j) (hd : dvsD X.K dvs dds) (hn : ∀ ds, (φ ds).isSome = true → ds.length = n) (hg : Gl X x := by rfl)
    (hdb : (x == ("__debug__" : Str)) = false := by decide) : ED X (.Call (.Name x p) [] [] pos) (x_call φ dds a_nil) := by
  obtain ⟨f, fd, ps, ds, F, hm, kp, hb, hv⟩ := F
  refine ⟨_, pe_call0 F (hr.mono hk) hg hm kp hb hv (E := E0) (fun _ _ _ _ _ _ _ z => z.elim) hdb, ?_⟩
  exact call_ok hd hn fun m E G0 G e σ H rs e' Q R q P => by
    cases q
    exact P [] G H R Stp.refl True.intro
/-! .. that writes its first argument -/
def x_callM (φ : List PyData → List PyData → Option (Rs × List PyData)) (dds : List PyData) (fa : Fa) : Fe := fun e => match fa e with
  | some (.br i :: rs, e1) => (match imAll rs, e1[i]? with
    | some ds, some (some (.ac c)) => (match φ c (ds ++ dds) with
      | some (.im d, c') => some (.im d, e1.set i (some (.ac c')))
      | some (.ac cs, c') => some (.ac cs, e1.set i (some (.ac c')))
      | _ => none)
    | _, _ => none)
  | _ => none
theorem callM_ok {φ : List PyData → List PyData → Option (Rs × List PyData)} {t : TA} (hd : dvsD X.K dvs dds) (hn : ∀ c ds, (φ c ds).isSome = true → ds.length = n)
    (kk : ∀ (m : Option Addr) (E : Ef) (G0 G : Hp) (e : Ev) (σ : St) (H : Hp) (rs : List Rs) (e' : Ev) (Q : List V → Hp → Prop),
    Rl X.K m E G0 G e σ H → fa e = some (rs, e') → (∀ vs G' H', Rl X.K m E G0 G' e' σ H' → Stp σ G H e G' H' e' → VrAll X.K E G' H' σ e' vs rs → Q vs H') → t σ H Q)
    (m : Option Addr) (E : Ef) (G0 G : Hp) (e : Ev) (σ : St) (H : Hp) (rr : Rs) (e' : Ev) (Q : VK) (R : Rl X.K m E G0 G e σ H) (q : x_callM φ dds fa e = some (rr, e')) (P : Po X.K m E G0 σ G H e rr e' Q) : tCall (spM X.K n φ) dvs E0 t σ H Q := by
  unfold x_callM at q
  split at q
  · rename_i i rs e1 h1
    split at q
    · rename_i ds c h2 h3
      have main : ∀ r c', φ c (ds ++ dds) = some (r, c') → r = rr ∧ e1.set i (some (.ac c')) = e' → tCall (spM X.K n φ) dvs E0 t σ H Q := fun r c' h4 ⟨z1, z2⟩ => by
        subst z1 z2
        refine kk m E G0 G e σ H _ e1 _ R h1 fun vs G1 H1 R1 S1 V1 => ?_
        cases vs with
        | nil => exact V1.elim
        | cons v0 vs =>
          obtain ⟨V0, V1⟩ := V1
          obtain ⟨p0, ws, o1, o2, o3, o4, o5⟩ := R1.ac i c h3
          obtain ⟨_, _, y2⟩ := V0
          rw [o1] at y2
          cases y2
          have D2 := dpAll_app (vr_imAll V1 h2) (hd G1)
          refine ⟨G1, p0, ws, c, vs ++ dvs, ds ++ dds, r, c', R1.gh, rfl, o3, o2, o4, D2, ?_, h4, fun v G' H' ws' s1 s2 s3 hp dc nw vr => ?_⟩
          · rw [dpAll_len D2]
            exact hn c _ (by rw [h4]; rfl)
          · have gp : G' p0 = none := nw p0 o2 (by rw [o3]; simp)
            have hl : i < e1.length := (List.getElem?_eq_some_iff.mp h3).1
            have th : ∀ a, H1 a ≠ none → H' a ≠ none := fun a z => by
              by_cases y : a = p0
              · rw [y, hp]; simp
              · cases q : H1 a with
                | none => exact absurd q z
                | some o => rw [s3 a o q y]; simp
            have S2 : Stp σ G1 H1 e1 G' H' (e1.set i (some (.ac c'))) := by
              refine ⟨s1, nw, fun a o z1 z2 => s3 a o z1 fun y => z2 ⟨i, c, h3, by rw [y]; exact o1⟩, fun j => ?_, th⟩
              rw [set_get]
              by_cases y : i = j ∧ j < e1.length
              · rw [if_pos y, ← y.1, h3]
                rfl
              · rw [if_neg y]
            have R2 : Rl X.K m E G0 G' (e1.set i (some (.ac c'))) σ H' := by
              refine ⟨R1.gg.trans s1, s2, fun a o z1 z2 => ?_, fun a z => ⟨(R1.mh a z).1, th a (R1.mh a z).2⟩, fun a z1 z2 => nw a (R1.nw a z1 z2) ?_, by rw [List.length_set]; exact R1.len, fun j d q => ?_, fun j dj q => ?_, fun j k dj dk p' q1 q2 q3 q4 => ?_, fun j dss q => ?_⟩
              · refine s3 a o (R1.eh a o z1 z2) fun y => ?_
                rcases o5 with o5 | o5
                · rw [y, o5] at z1
                  cases z1
                · exact z2 (by rw [y]; exact o5.1)
              · by_cases y : m = some a
                · exact (R1.mh a y).2
                · cases q : E a with
                  | none => exact absurd q z2
                  | some o => rw [R1.eh a o q y]; simp
              · rw [set_get] at q
                by_cases y : i = j ∧ j < e1.length
                · rw [if_pos y] at q
                  cases q
                · rw [if_neg y] at q
                  obtain ⟨v, a1, a2⟩ := R1.im j d q
                  exact ⟨v, a1, dp_same s1 a2⟩
              · rw [set_get] at q
                by_cases y : i = j ∧ j < e1.length
                · rw [if_pos y] at q
                  cases q
                  rw [← y.1]
                  exact ⟨p0, ws', o1, gp, hp, dc, o5⟩
                · rw [if_neg y] at q
                  obtain ⟨p', w', a1, a2, a3, a4, a5⟩ := R1.ac j dj q
                  have ne : p' ≠ p0 := fun y2 => by
                    rw [y2] at a1
                    have := R1.inj i j c dj p0 h3 q o1 a1
                    exact y ⟨this, by rw [← this]; exact hl⟩
                  exact ⟨p', w', a1, nw p' a2 (by rw [a3]; simp), s3 p' _ a3 ne, dpAll_same s1 a4, a5⟩
              · have old : ∀ {j : Nat} {dj : List PyData}, (e1.set i (some (.ac c')))[j]? = some (some (.ac dj)) → ∃ dj', e1[j]? = some (some (.ac dj')) := fun {j dj} z => by
                  rw [set_get] at z
                  by_cases y : i = j ∧ j < e1.length
                  · exact ⟨c, by rw [← y.1]; exact h3⟩
                  · rw [if_neg y] at z
                    exact ⟨dj, z⟩
                obtain ⟨d1, b1⟩ := old q1
                obtain ⟨d2, b2⟩ := old q2
                exact R1.inj j k d1 d2 p' b1 b2 q3 q4
              · rw [set_get] at q
                by_cases y : i = j ∧ j < e1.length
                · rw [if_pos y] at q
                  cases q
                · rw [if_neg y] at q
                  exact (R1.nl j dss q).mono s1
            obtain ⟨V2, N2⟩ := R1.vrf vr
            have V3 : Vr X.K E G' H' σ (e1.set i (some (.ac c'))) v r := by
              cases r with
              | im d => exact V2
              | br _ => exact vr.elim
              | ac cs =>
                obtain ⟨p', w', f1, f2, f3, f4, f5, f6⟩ := V2
                exact ⟨p', w', f1, f2, f3, f4, f5, fun z => f6 ((own_kd S2.kd).mp z)⟩
            exact P v G' H' R2 (S1.trans S2) V3 (nw_back S1 v N2)
      cases h4 : φ c (ds ++ dds) with
      | none => simp only [h4] at q; cases q
      | some z =>
        obtain ⟨r, c'⟩ := z
        cases r with
        | im d =>
          simp only [h4, Option.some.injEq, Prod.mk.injEq] at q
          exact main _ _ h4 q
        | ac d =>
          simp only [h4, Option.some.injEq, Prod.mk.injEq] at q
          exact main _ _ h4 q
        | br d => simp only [h4] at q; cases q
    · cases q
  · cases q
theorem ed_callM {φ : List PyData → List PyData → Option (Rs × List PyData)} (F : Kf X.prog X.w X.K X.mg X.base k x (spM X.K n φ) dvs) (hr : Room j X.A) (hk : k ≤ j) (hd : dvsD X.K dvs dds) (hn : ∀ c ds, (φ c ds).isSome = true → ds.length = n) (h : AD X (a :: es) fa) (hg : Gl X x := by rfl)
    (hdb : (x == ("__debug__" : Str)) = false := by decide) (he : starEach (a :: es) X.env = (false, eval a X.env) :: starEach es X.env := by rfl) (hpl : (backTo pos (starEach es X.env)).any (·.1) = false := by rfl) :
    ED X (.Call (.Name x p) (a :: es) [] pos) (x_callM φ dds fa) := by
  obtain ⟨f, fd, ps, ds, F, hm, kp, hb, hv⟩ := F
  obtain ⟨t, pa, kk⟩ := h
  exact ⟨_, pe_call F (hr.mono hk) hg hm kp hb hv (E := E0) (fun _ _ _ _ _ _ _ z => z.elim) pa hdb he hpl, callM_ok hd hn kk⟩
end
/-! ### a def's body keeps its promise -/
def finR (r : Rs) (e : Ev) : Option Rs := match r with
  | .im d => some (.im d)
  | .ac ds => some (.ac ds)
  | .br i => (match e[i]? with
    | some (some (.ac ds)) => some (.ac ds)
    | _ => none)
def env0 (ds : List PyData) (nl : Nat) : Ev := ds.map (fun d => some (Sl.im d)) ++ List.replicate nl none
def runF (n nl : Nat) (g : Fs) (ds : List PyData) : Option Rs := if ds.length = n then (match g (env0 ds nl) with
  | some (.rt r e) => finR r e
  | some (.nx _) => some (.im .none)
  | _ => none) else none
def envM (c : List PyData) (ds : List PyData) (nl : Nat) : Ev := some (.ac c) :: env0 ds nl
def ownC (e : Ev) (r : Rs) : Option (Rs × List PyData) := match e with
  | some (.ac c) :: _ => some (r, c)
  | _ => none
def runM (n nl : Nat) (g : Fs) (c ds : List PyData) : Option (Rs × List PyData) := if ds.length = n then (match g (envM c ds nl) with
  | some (.rt (.im d) e) => ownC e (.im d)
  | some (.rt (.ac d) e) => ownC e (.ac d)
  | some (.nx e) => ownC e (.im .none)
  | _ => none) else none
theorem runF_len {n nl : Nat} {g : Fs} : ∀ ds, (runF n nl g ds).isSome = true → ds.length = n := fun ds h => by
  unfold runF at h
  by_cases z : ds.length = n
  · exact z
  · rw [if_neg z] at h
    cases h
theorem runM_len {n nl : Nat} {g : Fs} : ∀ c ds, (runM n nl g c ds).isSome = true → ds.length = n := fun c ds h => by
  unfold runM at h
  by_cases z : ds.length = n
  · exact z
  · rw [if_neg z] at h
    cases h
section
variable {K : PySem.W.Frag} {G H : Hp} {vs us : List V} {ds c : List PyData} {nl : Nat}
theorem env0_at {i : Nat} {s : Sl} (h : (env0 ds nl)[i]? = some (some s)) : ∃ d, ds[i]? = some d ∧ s = .im d := by
  unfold env0 at h
  by_cases hi : i < ds.length
  · rw [List.getElem?_append_left (by rw [List.length_map]; exact hi), List.getElem?_map] at h
    cases z : ds[i]? with
    | none => rw [z] at h; cases h
    | some d =>
      rw [z] at h
      cases h
      exact ⟨d, rfl, rfl⟩
  · rw [List.getElem?_append_right (by rw [List.length_map]; omega)] at h
    rw [List.getElem?_replicate] at h
    split at h
    · cases h
    · cases h
theorem st_at {i : Nat} {v : V} {N : List Str} (h : vs[i]? = some v) : (L2.start N vs)[i]? = some (some v) := by
  unfold L2.start
  have hi := (List.getElem?_eq_some_iff.mp h).1
  rw [List.getElem?_append_left (by rw [List.length_map]; exact hi), List.getElem?_map, h]
  rfl
theorem rz_start {N : List Str} (s : Same G H) (q : DpAll K G vs ds) (hl : vs.length + nl = N.length) : Rz K none (Ef.of H) G G (env0 ds nl) (L2.start N vs) H := by
  refine ⟨⟨Same.refl _, s, fun a o z _ => z, fun a z => (by cases z), fun a z _ => z, ?_, fun i d z => ?_, fun i d z => ?_, fun i j di dj p z => ?_, fun i dss z => ?_⟩, fun p z => by cases z⟩
  · unfold env0 L2.start
    simp only [List.length_append, List.length_map, List.length_replicate]
    rw [dpAll_len q] at hl ⊢
    omega
  · obtain ⟨d', z1, z2⟩ := env0_at z
    cases z2
    obtain ⟨v, z3, z4⟩ := dpAll_get q z1
    exact ⟨v, st_at z3, z4⟩
  · obtain ⟨d', z1, z2⟩ := env0_at z
    cases z2
  · obtain ⟨d', z1, z2⟩ := env0_at z
    cases z2
  · obtain ⟨d', z1, z2⟩ := env0_at z
    cases z2
theorem rz_startM {N : List Str} {p : Addr} {ws : List V} (s : Same G H) (hp : H p = some (.lst ws)) (hg : G p = none) (qc : DpAll K G ws c) (q : DpAll K G us ds) (hl : us.length + 1 + nl = N.length) : Rz K (some p) (Ef.of H) G G (envM c ds nl) (L2.start N (.ref p :: us)) H := by
  have z0 : (L2.start N (V.ref p :: us))[0]? = some (some (.ref p)) := st_at rfl
  refine ⟨⟨Same.refl _, s, fun a o z _ => z, fun a z => ?_, fun a z _ => z, ?_, fun i d z => ?_, fun i d z => ?_, fun i j di dj p' z1 z2 => ?_, fun i dss z => ?_⟩, fun p' z => ?_⟩
  · cases z
    have ne : H p ≠ none := by rw [hp]; simp
    exact ⟨ne, ne⟩
  · unfold envM env0 L2.start
    simp only [List.length_append, List.length_map, List.length_replicate, List.length_cons]
    rw [dpAll_len q] at hl ⊢
    omega
  · cases i with
    | zero => cases z
    | succ i =>
      obtain ⟨d', z1, z2⟩ := env0_at (i := i) (by simpa [envM] using z)
      cases z2
      obtain ⟨v, z3, z4⟩ := dpAll_get q z1
      exact ⟨v, st_at (by simpa using z3), z4⟩
  · cases i with
    | zero =>
      cases z
      exact ⟨p, ws, z0, hg, hp, qc, .inr ⟨rfl, rfl⟩⟩
    | succ i =>
      obtain ⟨d', z1, z2⟩ := env0_at (i := i) (by simpa [envM] using z)
      cases z2
  · have no : ∀ {i : Nat} {d : List PyData}, (envM c ds nl)[i]? = some (some (.ac d)) → i = 0 := fun {i d} z => by
      cases i with
      | zero => rfl
      | succ i =>
        obtain ⟨d', z1, z2⟩ := env0_at (i := i) (by simpa [envM] using z)
        cases z2
    rw [no z1, no z2]
    intros
    rfl
  · cases i with
    | zero => cases z
    | succ i =>
      obtain ⟨d', z1, z2⟩ := env0_at (i := i) (by simpa [envM] using z)
      cases z2
  · cases z
    exact ⟨rfl, z0⟩
end
section
variable {P : Program} {w : World} {K : PySem.W.Frag} {mg : Str → Option Value} {base : Heap} {x qual : Str} {params : Arguments} {body : List Stmt} {scope : Scope} {dvs : List V} {kws : List (Str × V)} {f : Addr} {fd : FuncData} {N ps : List Str} {k n nl : Nat} {g : Fs}
theorem fnD (F : FunD K x qual params body scope dvs kws f fd) (S : FnScope N ps scope) (hp : ps.length = n) (hl : n + nl = N.length)
    (hb : ∀ (cdv : Value) (A : Around) (outer : List Env) (s : Shared) (H : Hp) (E : XK), Room k (A.deeper (envOfC qual scope s.heap.objs.size f cdv)) → SsD (cxOf CX0 P w K mg base N qual scope f cdv A outer s H E).nox body g) :
    FnOk P w K mg base CX0 (k + 1) f fd ps (spD K n (runF n nl g)) := by
  refine F.ok S (fun vs H Q E h => ?_) fun cdv A outer s H vs Q E hr h => ?_
  · obtain ⟨_, _, _, _, _, h, _⟩ := h
    rw [h, hp]
  · obtain ⟨t, pt, kt⟩ := hb cdv A outer s H E hr
    obtain ⟨G, ds, r, s1, hd, hv, hr2, hQ⟩ := h
    refine ⟨t, pt.nox, ?_⟩
    have Rz0 : Rz K none (Ef.of H) G G (env0 ds nl) (L2.start N vs) H := rz_start s1 hd (by omega)
    unfold runF at hr2
    rw [if_pos (by rw [← dpAll_len hd]; exact hv)] at hr2
    split at hr2
    · rename_i r' e' h1
      refine kt none (Ef.of H) G G _ _ H _ _ Rz0 h1 fun v G' σ' H' s2 R' V' => ?_
      have hh : Same H H' := fun a o z => R'.r.eh a o z (by simp)
      have nw : ∀ a, G a = none → H a ≠ none → G' a = none := R'.r.nw
      refine hQ v G' H' s2 R'.r.gh hh nw ?_
      unfold finR at hr2
      cases r' with
      | im d =>
        cases hr2
        exact V'
      | ac d =>
        cases hr2
        obtain ⟨p, ws, a1, a2, a3, a4, a5, _⟩ := V'
        exact ⟨p, ws, a1, a2, a3, a4, a5⟩
      | br i =>
        dsimp only at hr2
        split at hr2
        · rename_i d h2
          cases hr2
          obtain ⟨d', b1, b2⟩ := V'
          obtain ⟨p, ws, a1, a2, a3, a4, a5⟩ := R'.r.ac i d h2
          rw [a1] at b2
          cases b2
          have a5 : H p = none := by
            rcases a5 with a5 | a5
            · exact a5
            · cases a5.1
          exact ⟨p, ws, rfl, a5, a2, a3, a4⟩
        · cases hr2
    · rename_i e' h1
      cases hr2
      refine kt none (Ef.of H) G G _ _ H _ _ Rz0 h1 fun G' σ' H' s2 R' => ?_
      exact hQ .non G' H' s2 R'.r.gh (fun a o z => R'.r.eh a o z (by simp)) R'.r.nw .non
    · cases hr2
theorem fnM (F : FunD K x qual params body scope dvs kws f fd) (S : FnScope N ps scope) (hp : ps.length = n + 1) (hl : n + 1 + nl = N.length)
    (hb : ∀ (cdv : Value) (A : Around) (outer : List Env) (s : Shared) (H : Hp) (E : XK), Room k (A.deeper (envOfC qual scope s.heap.objs.size f cdv)) → SsD (cxOf CX0 P w K mg base N qual scope f cdv A outer s H E).nox body g) :
    FnOk P w K mg base CX0 (k + 1) f fd ps (spM K n (runM n nl g)) := by
  refine F.ok S (fun vs H Q E h => ?_) fun cdv A outer s H vs Q E hr h => ?_
  · obtain ⟨_, _, _, _, _, _, _, _, _, h, _, _, _, _, h2, _⟩ := h
    rw [h, List.length_cons, h2, hp]
  · obtain ⟨t, pt, kt⟩ := hb cdv A outer s H E hr
    obtain ⟨G, p, ws, c, us, ds, r, c', s1, rfl, h1, h2, h3, h4, h5, h6, hQ⟩ := h
    refine ⟨t, pt.nox, ?_⟩
    have Rz0 : Rz K (some p) (Ef.of H) G G (envM c ds nl) (L2.start N (.ref p :: us)) H := rz_startM s1 h1 h2 h3 h4 (by omega)
    unfold runM at h6
    rw [if_pos (by rw [← dpAll_len h4]; exact h5)] at h6
    have fin : ∀ {v : V} {G' : Hp} {σ' : St} {H' : Hp} {e' : Ev} {r' : Rs}, Same G G' → Rz K (some p) (Ef.of H) G G' e' σ' H' → ownC e' r' = some (r, c') → VrF K G' H H' v r' → Q v H' := fun {v G' σ' H' e' r'} s2 R' oc vf => by
      unfold ownC at oc
      split at oc
      · rename_i c2 rest
        cases oc
        obtain ⟨z1, z2⟩ := R'.z p rfl
        obtain ⟨p', w', a1, a2, a3, a4, a5⟩ := R'.r.ac 0 _ (rfl : (some (Sl.ac c') :: rest)[0]? = some (some (.ac c')))
        rw [z2] at a1
        cases a1
        exact hQ v G' H' w' s2 R'.r.gh (fun a o q ne => R'.r.eh a o q fun y => ne (Option.some.inj y).symm) a3 a4 R'.r.nw vf
      · cases oc
    split at h6
    · rename_i d e' h7
      exact kt (some p) (Ef.of H) G G _ _ H _ _ Rz0 h7 fun v G' σ' H' s2 R' V' => fin s2 R' h6 V'
    · rename_i d e' h7
      refine kt (some p) (Ef.of H) G G _ _ H _ _ Rz0 h7 fun v G' σ' H' s2 R' V' => fin s2 R' h6 ?_
      obtain ⟨p, ws, a1, a2, a3, a4, a5, _⟩ := V'
      exact ⟨p, ws, a1, a2, a3, a4, a5⟩
    · rename_i e' h7
      exact kt (some p) (Ef.of H) G G _ _ H _ _ Rz0 h7 fun G' σ' H' s2 R' => fin (v := .non) s2 R' h6 .non
    · cases h6
end
end DL
namespace DL
open PySem PySem.Spec PyProof.Rows L2

/-! ### slices with a step -/
def pickI (lo hi : Option Int) (c : Int) (n : Nat) : List Nat := sliceRange (sliceBounds lo hi (some c) n).1 (sliceBounds lo hi (some c) n).2.1 (sliceBounds lo hi (some c) n).2.2
def pickD {α : Type} (xs : List α) (lo hi : Option Int) (c : Int) : List α := (pickI lo hi c xs.length).filterMap (xs[·]?)
theorem pick_vals {xs : List V} {us : List Value} (r : Vals xs us) : ∀ (ks : List Nat), Vals (ks.filterMap (xs[·]?)) (ks.filterMap (us[·]?))
  | [] => .nil
  | k :: ks => by
    cases h : xs[k]? with
    | none =>
      have h2 : us[k]? = none := by
        have := r.length
        rw [List.getElem?_eq_none_iff] at h ⊢
        omega
      rw [List.filterMap_cons_none h, List.filterMap_cons_none h2]
      exact pick_vals r ks
    | some v =>
      obtain ⟨u, h2, h3⟩ := r.get h
      rw [List.filterMap_cons_some h, List.filterMap_cons_some h2]
      exact .cons h3 (pick_vals r ks)
theorem pick_dp {K : PySem.W.Frag} {G : Hp} {vs : List V} {ds : List PyData} (r : DpAll K G vs ds) : ∀ (ks : List Nat), DpAll K G (ks.filterMap (vs[·]?)) (ks.filterMap (ds[·]?))
  | [] => .nil
  | k :: ks => by
    cases h : ds[k]? with
    | none =>
      have h2 : vs[k]? = none := by
        have := dpAll_len r
        rw [List.getElem?_eq_none_iff] at h ⊢
        omega
      rw [List.filterMap_cons_none h, List.filterMap_cons_none h2]
      exact pick_dp r ks
    | some d =>
      obtain ⟨v, h2, h3⟩ := dpAll_get r h
      rw [List.filterMap_cons_some h, List.filterMap_cons_some h2]
      exact .cons h3 (pick_dp r ks)
theorem pick_arr (its : List Value) (lo hi : Option Int) (c : Int) : slicePick its.toArray lo hi (some c) = (pickD its lo hi c).toArray := by
  unfold slicePick pickD pickI
  rw [List.size_toArray]
  simp only [List.getElem?_toArray]
def tStp (K : PySem.W.Frag) (c : Int) (te : TE) (tl th : TO) (ts : TO) : TE := fun σ H Q => te σ H fun x H1 => tl σ H1 fun lo H2 => th σ H2 fun hi H3 => ts σ H3 fun o H4 => o = some c ∧ ∃ a xs, x = .ref a ∧ SqL K H4 a xs ∧ (pickD xs lo hi c).length ≤ sizeLine ∧ ∀ p, H4 p = none → Q (.ref p) (upd H4 p (.lst (pickD xs lo hi c)))
section
variable {X : Cx}
/-- e[..:..:..]: the parts are reckoned one by one, a slice is laid, and the rest goes on from there -/
def tSl (te : TE) (tl th ts : TO) (k : V → Option Int → Option Int → Option Int → Hp → Prop) (σ : St) (H : Hp) : Prop := te σ H fun x Ha => tl σ Ha fun lo Hb => th σ Hb fun hi Hc => ts σ Hc fun st Hd => k x lo hi st Hd
abbrev laidS (s : Shared) (l h t : Value) : Shared := { s with heap := s.heap.push { cls := .type "slice", data := .fields #[l, h, t] } }
theorem run_sl {e : Expr} {lo hi st : Option Expr} {te : TE} {tl th ts : TO} {p3 pos : Pos} {pins : List (Addr × Obj)} {s : Shared} {σ : St} {H : Hp} {Q : VK} {k : V → Option Int → Option Int → Option Int → Hp → Prop} (he : PE X e te) (hl : PO X lo tl) (hh : PO X hi th) (ht : PO X st ts) (I : Inv X pins σ H s) (h : tSl te tl th ts k σ H)
    (next : ∀ x v l vl u vu o vo (s' : Shared) (H' : Hp), RelV x v → IsPart vl l → IsPart vu u → IsPart vo o → Inv X pins σ H' (laidS s' vl vu vo) → k x l u o H' →
      wpAny (model X.prog X.w) X.A (subscriptTail e (.Slice lo hi st p3) v (.ref s'.heap.objs.size)) (EP X pins σ Q) X.xe (laidS s' vl vu vo)) :
    wpAny (model X.prog X.w) X.A (eval (.Subscript e (.Slice lo hi st p3) pos) X.env) (EP X pins σ Q) X.xe s :=
  Subscript_ (thn (he.run pins s σ H _ I h) fun v sa ⟨x, Ha, Ia, rx, qa⟩ => wpAny_Slice (thn (hl.run pins sa σ Ha _ Ia qa) fun vl sb ⟨l, Hb, Ib, rl, qb⟩ => thn (hh.run pins sb σ Hb _ Ib qb) fun vu sc ⟨u, Hc, Ic, ru, qc⟩ =>
    thn (ht.run pins sc σ Hc _ Ic qc) fun vo sd ⟨o, Hd, Id, ro, qd⟩ => next x v l vl u vu o vo sd Hd rx rl ru ro (Id.kept (t' := sd.toks) fun _ _ z => Heap.get?_push_of_some _ z) qd))
theorem pe_stp {e st : Expr} {lo hi : Option Expr} {te : TE} {tl th ts : TO} {c : Int} {p3 pos : Pos} (he : PE X e te) (hl : PO X lo tl) (hh : PO X hi th) (hst : PO X (some st) ts) (hc : some c ≠ some 0)
    (hg : ∀ a b, subscripted (.Slice lo hi (some st) p3) false a b = operate [a, b] (getItem a b) := by intros; with_unfolding_all rfl) : PE X (.Subscript e (.Slice lo hi (some st) p3) pos) (tStp X.K c te tl th ts) := by
  constructor
  intro pins s σ H Q I h
  refine run_sl he hl hh hst I h ?_
  rintro _ _ l vl u vu _ vo s' H' rx pl pu po J ⟨rfl, a, xs, rfl, hx, few, q⟩
  cases rx
  obtain ⟨us, vals, place, _⟩ := J.list hx
  have same := vals.length
  have out : Vals (pickD xs l u c) (pickD us l u c) := by
    unfold pickD
    rw [same]
    exact pick_vals vals _
  refine tail_any (ops := [.ref a, .ref s'.heap.objs.size]) place.isList.typeIs PySem.slot_list_getitem.lookup (wpAny_getItem_list_slice place.isList (Heap.IsSliceOf.new _ vl vu vo) pl pu po hc ?_ (by simp only [List.size_toArray]; omega)) (hg _ _)
  rw [pick_arr]
  exact ⟨.ref _, _, J.laid (t' := s'.toks) (o := .lst (pickD xs l u c)) (fun _ _ z => Heap.get?_push_of_some _ z) (Nat.le_refl _) ⟨few, _, 0, out, Heap.get?_push_size _ rfl⟩, rfl, q _ (J.hok.fresh (Nat.le_refl _))⟩
def x_stp (c : Int) (fa : Fe) (fl fh : Fo) : Fe := fun e => match fa e with
  | some (r, e1) => (match fl e1 with
    | some (lo, e2) => (match fh e2 with
      | some (hi, e3) => (match lookR e3 (frzR r) with
        | some (.list ds) => if okLen (pickD ds lo hi c).length = true then some (.ac (pickD ds lo hi c), e3) else none
        | _ => none)
      | none => none)
    | none => none)
  | none => none
theorem stp_ok {a : Expr} {fa : Fe} {fl fh : Fo} {t : TE} {t1 t2 ts : TO} {c : Int} (hs : ∀ σ H Q, Q (some c) H → ts σ H Q)
    (k : ∀ (m : Option Addr) (E : Ef) (G0 G : Hp) (e : Ev) (σ : St) (H : Hp) (r : Rs) (e' : Ev) (Q : VK), Rl X.K m E G0 G e σ H → fa e = some (r, e') → Po X.K m E G0 σ G H e r e' Q → t σ H Q)
    (k1 : ∀ (m : Option Addr) (E : Ef) (G0 G : Hp) (e : Ev) (σ : St) (H : Hp) (i : Option Int) (e' : Ev) (Q : Option Int → Hp → Prop),
    Rl X.K m E G0 G e σ H → fl e = some (i, e') → (∀ G' H', Rl X.K m E G0 G' e' σ H' → Stp σ G H e G' H' e' → Q i H') → t1 σ H Q)
    (k2 : ∀ (m : Option Addr) (E : Ef) (G0 G : Hp) (e : Ev) (σ : St) (H : Hp) (i : Option Int) (e' : Ev) (Q : Option Int → Hp → Prop),
    Rl X.K m E G0 G e σ H → fh e = some (i, e') → (∀ G' H', Rl X.K m E G0 G' e' σ H' → Stp σ G H e G' H' e' → Q i H') → t2 σ H Q)
    (m : Option Addr) (E : Ef) (G0 G : Hp) (e : Ev) (σ : St) (H : Hp) (r : Rs) (e' : Ev) (Q : VK) (R : Rl X.K m E G0 G e σ H) (q : x_stp c fa fl fh e = some (r, e')) (P : Po X.K m E G0 σ G H e r e' Q) : tStp X.K c t t1 t2 ts σ H Q := by
  unfold x_stp at q
  cases h1 : fa e with
  | none => simp only [h1] at q; cases q
  | some z =>
    obtain ⟨r0, e1⟩ := z
    simp only [h1] at q
    cases h2 : fl e1 with
    | none => simp only [h2] at q; cases q
    | some z =>
      obtain ⟨i, e2⟩ := z
      simp only [h2] at q
      cases h3 : fh e2 with
      | none => simp only [h3] at q; cases q
      | some z =>
        obtain ⟨j, e3⟩ := z
        simp only [h3] at q
        split at q
        · rename_i ds h4
          by_cases h5 : okLen (pickD ds i j c).length = true
          · rw [if_pos h5] at q
            cases q
            refine k m E G0 G e σ H r0 e1 _ R h1 fun v G1 H1 R1 S1 V1 N1 => ?_
            obtain ⟨G1', R1', S1', s1, V1'⟩ := R1.freeze S1 V1 N1
            refine k1 m E G0 G1' e1 σ H1 i e2 _ R1' h2 fun G2 H2 R2 S2 => ?_
            refine k2 m E G0 G2 e2 σ H2 j _ _ R2 h3 fun G3 H3 R3 S3 => ?_
            have L := R3.look ((V1'.stp S2).stp S3) h4
            have S := S1'.trans (S2.trans S3)
            obtain ⟨p', ws, ex, s2, dk⟩ := L.list R3.gh
            have dp : DpAll X.K G3 (pickD ws i j c) (pickD ds i j c) := by
              unfold pickD
              rw [dpAll_len dk]
              exact pick_dp dk _
            refine hs σ H3 _ ⟨rfl, p', ws, ex, s2, by rw [dpAll_len dp]; exact okLen_ok h5, fun p hp => ?_⟩
            obtain ⟨R', S', V', N'⟩ := R3.newL hp dp
            exact P _ _ _ R' (S.trans S') V' (nw_back S _ N')
          · rw [if_neg h5] at q
            cases q
        · cases q
/-- xs[lo:hi:c] of a list, c a written number above 0 -/
theorem ed_stp {a : Expr} {fa : Fe} {fl fh : Fo} {lo hi : Option Expr} {pos p1 p2 : Pos} {n : Nat} (c : Int) (ha : ED X a fa) (hl : OD X lo fl) (hh : OD X hi fh) (hc : some c ≠ some 0 := by decide) :
    ED X (.Subscript a (.Slice lo hi (some (.Constant (.int c) n p1)) p2) pos) (x_stp c fa fl fh) := by
  obtain ⟨t, p, k⟩ := ha
  obtain ⟨t1, q1, k1⟩ := hl
  obtain ⟨t2, q2, k2⟩ := hh
  exact ⟨_, pe_stp p q1 q2 (po_some pe_int) hc, stp_ok (a := a) (fun σ H Q z => ⟨c, rfl, z⟩) k k1 k2⟩
/-- .. below 0 -/
theorem ed_stpN {a : Expr} {fa : Fe} {fl fh : Fo} {lo hi : Option Expr} {pos p1 p2 p3 : Pos} {n : Nat} (c : Int) (ha : ED X a fa) (hl : OD X lo fl) (hh : OD X hi fh) (hc : some (-c) ≠ some 0 := by decide) :
    ED X (.Subscript a (.Slice lo hi (some (.UnaryOp .USub (.Constant (.int c) n p1) p3)) p2) pos) (x_stp (-c) fa fl fh) := by
  obtain ⟨t, p, k⟩ := ha
  obtain ⟨t1, q1, k1⟩ := hl
  obtain ⟨t2, q2, k2⟩ := hh
  exact ⟨_, pe_stp p q1 q2 (po_some (pe_un un_neg pe_int)) hc, stp_ok (a := a) (fun σ H Q z => ⟨c, rfl, -c, rfl, z⟩) k k1 k2⟩
end
end DL
namespace DL
open PySem PySem.Spec PySem.W PyProof.Rows L2 Calls

/-! ### tuples of ints, in order -/
def tI (k : List Int) : PyData := .tuple (k.map PyData.int)
def upT (ks : List (List Int)) : List (List Int) := ks.mergeSort fun p q => decide (p ≤ q)
def okT (ks : List (List Int)) : Bool := decide (ks.length ≤ 1) || ks.all fun k => !k.isEmpty
theorem upT_perm (ks : List (List Int)) : (upT ks).Perm ks := List.mergeSort_perm _ _
theorem upT_pw (ks : List (List Int)) : (upT ks).Pairwise (· ≤ ·) := by
  have z := List.pairwise_mergeSort (le := fun p q : List Int => decide (p ≤ q)) (fun a b c h1 h2 => by
    rw [decide_eq_true_eq] at h1 h2 ⊢
    exact List.le_trans h1 h2) (fun a b => by
    rw [Bool.or_eq_true, decide_eq_true_eq, decide_eq_true_eq]
    exact List.le_total a b) ks
  exact z.imp fun h => of_decide_eq_true h
theorem upT_uniq {ks ms : List (List Int)} (h : ms.Perm ks) (k : ms.Pairwise (· ≤ ·)) : ms = upT ks :=
  List.Perm.eq_of_pairwise (le := (· ≤ ·)) (fun a b _ _ h1 h2 => List.le_antisymm h1 h2) k (upT_pw ks) (h.trans (upT_perm ks).symm)
theorem upT_congr {ks ms : List (List Int)} (h : ms.Perm ks) : upT ms = upT ks := upT_uniq ((upT_perm ms).trans h) (upT_pw ms)
theorem dataLe_tups : dataLe false tI = fun p q => decide (p ≤ q) := dataLe_rows fun k : List Int => k
theorem alike_tI (p q : List Int) : alike (tI p) (tI q) = true := alike_ints p q
theorem depth_tI (p : List Int) : (tI p).depth ≤ 1 := by
  show PyData.depthAll (p.map .int) + 1 ≤ 1
  rw [depth_ints]
  exact Nat.le_refl _
theorem okT_two {ks : List (List Int)} (h : okT ks = true) (h2 : ¬ ks.length ≤ 1) : Sortable (ks.map tI) := by
  unfold okT at h
  rw [Bool.or_eq_true, decide_eq_true_eq] at h
  rcases h with h | h
  · exact absurd h h2
  · refine .inl fun d hd => ?_
    obtain ⟨k, hk, rfl⟩ := List.mem_map.mp hd
    have z := List.all_eq_true.mp h k hk
    cases k with
    | nil => cases z
    | cons i k => exact ⟨.int i, k.map .int, rfl⟩
theorem perm_one {α : Type} {xs ys : List α} (p : xs.Perm ys) (h : ys.length ≤ 1) : xs = ys := by
  match ys, h with
  | [], _ => exact p.eq_nil
  | [y], _ => exact List.perm_singleton.mp p
theorem upT_one {ks : List (List Int)} (h : ks.length ≤ 1) : upT ks = ks := perm_one (upT_perm ks) h
section
variable {prog : Program} {w : World} {A : Around} {E : Value → Shared → Prop} {s : Shared} {vs : List Value} {ks : List (List Int)} {R : Value → List Int → Prop}
/-- one item or none: nothing is compared -/
theorem sort_few {a : Addr} {n : Nat} {P : PySem.Fin → Shared → Prop} (ho : s.heap.get? a = some (seqObj "list" vs.toArray n)) (h1 : vs.length ≤ 1) (h : P (.done (.ret .none)) { s with heap := sortedHeap s.heap a vs vs.toArray }) :
    wpAny (model prog w) A (Builtin.«list.sort» ⟨[.ref a], []⟩) P E s := by
  refine SK.plain_sort (r := fun _ => 0) ho (by omega) (fun h2 => by omega) fun ps out e1 e2 _ => ?_
  have e3 : out.toList = vs := by
    have z := e2.map Prod.snd
    rw [← e1, List.map_snd_zip (Nat.le_refl _)] at z
    exact perm_one z h1
  have e4 : out = vs.toArray := by rw [← e3]
  rw [e4]
  exact h
theorem sort_tlist {a : Addr} {n : Nat} {Q : Value → Shared → Prop} (ho : s.heap.get? a = some (seqObj "list" vs.toArray n)) (e : EachIs R vs ks) (er : EachIs (fun v k => ∃ as, Reads s.heap v (tI k) as ∧ a ∉ as) vs ks) (hk : okT ks = true) (hL : ks.length ≤ sizeLine) (hu : A.units + 3 < cLine)
    (h : ∀ out, EachIs R out (upT ks) → Q .none { s with heap := sortedHeap s.heap a vs (List.toArray out) }) : wpAny (model prog w) A (call (.builtin "list.sort") [.ref a]) Q E s := by
  by_cases h1 : ks.length ≤ 1
  · refine wpAny_call_entry slot_list_sort ⟨_, ho, rfl⟩ entry_list_sort (sort_few ho (by rw [e.length]; exact h1) ⟨_, rfl, h vs ?_⟩) (args_list_sort _)
    rw [upT_one h1]
    exact e
  · refine list_sort_data (enc := tI) ho e er (AllAlike.of alike_tI) (okT_two hk h1) hL (fun b _ => by have := depth_tI b; omega) fun out _ eo => h out ?_
    rw [dataLe_tups] at eo
    exact eo
theorem sorted_tlist {l : Addr} {Q : Value → Shared → Prop} (hl : s.heap.IsList l vs.toArray) (e : EachIs R vs ks) (er : EachIs (fun v k => ∃ as, Reads s.heap v (tI k) as) vs ks) (hk : okT ks = true) (hL : ks.length ≤ sizeLine) (hu : A.units + 4 < cLine)
    (h : ∀ out, EachIs R out (upT ks) → Q (.ref (s.heap.objs.size + 1)) { s with heap := sortedAll s.heap vs (List.toArray out) }) : wpAny (model prog w) A (call (.builtin "sorted") [.ref l]) Q E s := by
  by_cases h1 : ks.length ≤ 1
  · refine sorted_of_sort hl (by rw [e.length]; exact hL) (args_sorted1 _) (fun _ => args_list_sort _) fun _ => ?_
    refine sort_few (s := { s with heap := copyHeap s.heap vs }) (copyHeap_at s.heap vs) (by rw [e.length]; exact h1) ⟨rfl, h vs ?_⟩
    rw [upT_one h1]
    exact e
  · refine sorted_data (enc := tI) hl e er (AllAlike.of alike_tI) (okT_two hk h1) hL (fun b _ => by have := depth_tI b; omega) fun out _ eo => h out ?_
    rw [dataLe_tups] at eo
    exact eo
end
/-! what the items are -/
def IsK (K : PySem.W.Frag) (G : Hp) (v : Value) (k : List Int) : Prop := ∃ x, RelV x v ∧ Dp K G x (tI k)
theorem isK_all {K : PySem.W.Frag} {G : Hp} : ∀ {ws : List V} {us : List Value} {ks : List (List Int)}, DpAll K G ws (ks.map tI) → Vals ws us → EachIs (IsK K G) us ks
  | [], _, [], _, .nil => .nil
  | w :: ws, _, k :: ks, .cons h t, .cons r q => .cons ⟨w, r, h⟩ (isK_all t q)
  | [], _, _ :: _, h, _ => by cases h
  | _ :: _, _, [], h, _ => by cases h
theorem isK_back {K : PySem.W.Frag} {G : Hp} : ∀ {us : List Value} {ks : List (List Int)}, EachIs (IsK K G) us ks → ∃ ws, Vals ws us ∧ DpAll K G ws (ks.map tI)
  | _, _, .nil => ⟨[], .nil, .nil⟩
  | _, _, .cons h t => by
    obtain ⟨x, r, d⟩ := h
    obtain ⟨ws, r2, d2⟩ := isK_back t
    exact ⟨x :: ws, .cons r r2, .cons d d2⟩
theorem isK_reads {X : Cx} {pins : List (Addr × Obj)} {σ : St} {G H : Hp} {s : Shared} (I : Inv X pins σ H s) (sg : Same G H) {us : List Value} {ks : List (List Int)} (e : EachIs (IsK X.K G) us ks) : EachIs (fun v k => ∃ as, Reads s.heap v (tI k) as) us ks :=
  e.mono fun v k ⟨x, r, d⟩ => Dp.reads I _ x v (dp_same sg d) r
section
variable {X : Cx}
/-- sorted(xs), xs a list of tuples of ints -/
def rSortTL (K : PySem.W.Frag) : List V → Hp → VK → Prop := fun vs H Q => ∃ (G : Hp) (a : Addr) (ws : List V) (ks : List (List Int)), Same G H ∧ vs = [.ref a] ∧ SqL K H a ws ∧ DpAll K G ws (ks.map tI) ∧ okT ks = true ∧
  ∀ ys p, DpAll K G ys ((upT ks).map tI) → H p = none → Q (.ref p) (upd H p (.lst ys))
theorem cr_sortTL (hu : X.A.units + 64 < cLine) : CallR X (.builtin "sorted") (rSortTL X.K) := by
  intro pins s σ H vs us Q I r h
  obtain ⟨G, a, ws, ks, sg, rfl, hs, hd, ok, q⟩ := h
  obtain ⟨its, rv, pl, hz⟩ := I.list hs
  rw [Vals.ref1 r]
  have e := isK_all hd rv
  have hl : ks.length ≤ sizeLine := by
    rw [← e.length, ← rv.length]
    exact hz
  refine sorted_tlist pl.isList e (isK_reads I sg e) ok hl (by omega) fun out eo => ?_
  obtain ⟨ys, r2, d2⟩ := isK_back eo
  obtain ⟨c, hat⟩ := sortedAll_at s.heap its out.toArray
  have hl2 : ys.length ≤ sizeLine := by
    rw [dpAll_len d2, List.length_map, (upT_perm ks).length_eq]
    exact hl
  exact ⟨.ref _, upd H (s.heap.objs.size + 1) (.lst ys), I.laid (t' := s.toks) (fun _ _ => sortedAll_old) (Nat.le_succ _) ⟨hl2, out, c, r2, hat⟩, rfl, q ys _ d2 (I.hok.fresh (Nat.le_succ _))⟩
end
end DL
namespace DL
open PySem PySem.Spec PyProof.Rows L2

/-! ### enumerate of a tuple -/
theorem enumNew1 {v : Value} {ob : Obj} {P : Heap → Prop} (B : Begins v ob P) :
    Meets (Builtin.«enumerate.__new__» ⟨[.type "enumerate", v], []⟩) fun _ R st => P st.heap ∧
      R (.ok (.ret (.ref (st.heap.push ob).objs.size))) { st with heap := (st.heap.push ob).push { cls := .type "enumerate", data := .fields #[.none, .bool false, .ref st.heap.objs.size, rawInt 0, .none, .none] } } :=
  .of_wp fun pr wo Ar R st z => by
    obtain ⟨he, ge, dr, to, oo⟩ := st
    obtain ⟨z1, z2⟩ := z
    have sb := sub_enumerate
    have it1 : ∀ {A' : Around} {E' : Value → Shared → Prop} {Q' : Value → Shared → Prop}, Q' (.ref he.objs.size) ⟨he.push ob, ge, dr, to, oo⟩ → wpAny (model pr wo) A' (pyIter v) Q' E' ⟨he, ge, dr, to, oo⟩ := fun y => B.iter pr wo _ _ ⟨he, ge, dr, to, oo⟩ _ z1 y
    wp_walk using it1
    refine wpAny_stack_any fun sk => wpAny_pure ?_
    split
    · rename_i cc _ _ _ _ _
      cases (cc == Value.type "enumerate") <;> (wp_walk using it1; exact ⟨_, rfl, z2⟩)
    · wp_walk using it1
      exact ⟨_, rfl, z2⟩
theorem enumCall1 {prog : Program} {w : World} {A : Around} {E : Value → Shared → Prop} {s : Shared} {v : Value} {ob : Obj} {P : Heap → Prop} {Q : Value → Shared → Prop} (B : Begins v ob P) (h1 : P s.heap)
    (h : ∀ g, IsEnum g (s.heap.objs.size + 1) s.heap.objs.size 0 .none → g.get? s.heap.objs.size = some ob → (∀ b u, s.heap.get? b = some u → g.get? b = some u) → Q (.ref (s.heap.objs.size + 1)) { s with heap := g }) :
    wpAny (model prog w) A (call (.type "enumerate") [v]) Q E s := by
  refine callType_new F.called_enumerate (by decide) (F.typeCall_enumerate_1 _) (F.newCall_enumerate_1 _) (fun x => F.args_object_init_2 x _) F.entry_enumerate_new (enumNew1 B) ⟨h1, ?_⟩
  have sz : (s.heap.push ob).objs.size = s.heap.objs.size + 1 := Heap.size_push ..
  have old : ∀ b u, s.heap.get? b = some u → ((s.heap.push ob).push { cls := .type "enumerate", data := .fields #[.none, .bool false, .ref s.heap.objs.size, rawInt 0, .none, .none] }).get? b = some u := fun b u y => Heap.get?_push_of_some _ (Heap.get?_push_of_some _ y)
  have en := Heap.get?_push_size (s.heap.push ob) (o := { cls := .type "enumerate", data := .fields #[.none, .bool false, .ref s.heap.objs.size, rawInt 0, .none, .none] }) rfl
  show _ ∧ _
  rw [sz] at en ⊢
  exact ⟨⟨_, en, rfl⟩, h _ en (Heap.get?_push_of_some _ (Heap.get?_push_size _ B.free)) old⟩
/-- the tuple at a, each item in a new pair -/
def ItE (K : PySem.W.Frag) (a : Addr) : It where
  go := fun i H => ∃ xs x, SqT K H a xs ∧ xs[i]? = some x
  yld := fun i H v H' => ∃ T x, v = .ref T ∧ H T = none ∧ H' = upd H T (.tup [.int (i : Nat), x]) ∧ ∀ xs, SqT K H a xs → xs[i]? = some x
  stop := fun i H => ∃ xs : List V, SqT K H a xs ∧ xs.length = i
theorem turn_enumT {P : Program} {w : World} {K : PySem.W.Frag} {elts : List Expr} {kk : Nat} {tpos : Pos} (a e it : Addr) :
    Turn P w K (.Tuple elts kk tpos) (ItE K a) [e, it] e fun i h => (∃ old, IsEnum h e it ((i : Nat) : Int) old) ∧ h.IsTupleIter it a i ∧ e ≠ it ∧ a ≠ it ∧ a ≠ e where
  mem := List.mem_cons_self
  obj := fun i h ⟨⟨old, z1⟩, ⟨o, z2, z3, z4⟩, _⟩ b hb => by
    rcases List.mem_cons.mp hb with y | y
    · subst y
      exact ⟨_, z1, fun v q => nomatch q⟩
    · rw [List.mem_singleton.mp y]
      exact ⟨o, z2, fun v q => by rw [z4] at q; cases q⟩
  keep := fun i h h' ⟨⟨old, z1⟩, z2, z3⟩ k => ⟨⟨old, k e List.mem_cons_self _ z1⟩, z2.at fun o q => k it (List.mem_cons_of_mem _ List.mem_cons_self) o q, z3⟩
  item := by
    intro X e1 e2 e3 hc i pins s σ H E I hf ⟨⟨old, z1⟩, z2, z3, z4, z5⟩ ⟨xs, x, hq, hx⟩
    subst e1 e2 e3
    obtain ⟨its, rv, tp, hz⟩ := I.tuple hq
    obtain ⟨u, hu, ru⟩ := rv.get hx
    have li : i < its.toArray.size := by
      rw [List.size_toArray]
      exact (List.getElem?_eq_some_iff.mp hu).1
    have le : e < s.heap.objs.size := Heap.lt_size z1
    have lt : it < s.heap.objs.size := by
      obtain ⟨_, q, _⟩ := z2
      exact Heap.lt_size q
    have D := Draws.tuple (prog := X.prog) (w := X.w) (A := X.A.in1) (by exact I.ok.hd hc) it a z4 its.toArray
    refine wpAny_pyNext_enum_itemD D z1 ⟨z2, tp⟩ li z3 (by
      intro m
      rcases List.mem_cons.mp m with y | y
      · exact z3 y
      · exact z5 (List.mem_singleton.mp y).symm) fun u2 g tk hu2 eo st gT gs gk => ?_
    have eu : u2 = u := by
      have y : its.toArray[i]? = some u2 := hu2
      rw [List.getElem?_toArray, hu] at y
      exact (Option.some.inj y).symm
    subst eu
    refine ⟨_, rfl, wpAny_letOwnedTupleGo_enum (s := { s with heap := g, toks := tk + 1 }) eo fun g2 eo2 sb => ?_⟩
    have nT : s.heap.objs.size ≠ e := Nat.ne_of_gt le
    have gT2 := (sb.2 _ nT).trans gT
    have new : ObjOk X.prog X.w (upd H s.heap.objs.size (.tup [.int (i : Nat), x])) g2 s.heap.objs.size (.tup [.int (i : Nat), x]) := ⟨by show 2 ≤ sizeLine; decide, [.int i tk, u2], .cons ⟨_, rfl⟩ (.cons ru .nil), ⟨_, gT2, rfl, _, rfl⟩⟩
    have out : ∀ {b : Addr}, b ∉ [e, it] → b ≠ e ∧ b ≠ it := fun {b} m => ⟨fun y => m (by rw [y]; exact List.mem_cons_self), fun y => m (by rw [y]; exact List.mem_cons_of_mem _ List.mem_cons_self)⟩
    have J := I.turnedNew (t' := tk + 1) (ch := [e, it]) (fun b ob m y => (sb.2 b (out m).1).trans (gk b ob (out m).1 (out m).2 y)) hf (Nat.le_refl _) new
    refine ⟨.ref s.heap.objs.size, _, J, rfl, ⟨_, x, rfl, I.hok.fresh (Nat.le_refl _), rfl, fun ys hy => by rw [I.tuple_inj hy hq]; exact hx⟩, ⟨⟨u2, ?_⟩, st.1.at fun o q => (sb.2 it z3.symm).trans q, z3, z4, z5⟩, fun b m => ?_⟩
    · rw [show (((i + 1 : Nat) : Nat) : Int) = (i : Int) + 1 by omega]
      exact eo2
    · have lb : b < s.heap.objs.size := by
        rcases List.mem_cons.mp m with y | y
        · rw [y]; exact le
        · rw [List.mem_singleton.mp y]; exact lt
      rw [upd_ne (Nat.ne_of_lt lb)]
      exact (hf b m).1
  done := by
    intro X e1 e2 e3 hc i pins s σ H E I hf ⟨⟨old, z1⟩, z2, z3, z4, z5⟩ ⟨xs, hq, hx⟩
    subst e1 e2 e3
    obtain ⟨its, rv, tp, hz⟩ := I.tuple hq
    have le : e < s.heap.objs.size := Heap.lt_size z1
    have D := Draws.tuple (prog := X.prog) (w := X.w) (A := X.A.in1) (by exact I.ok.hd hc) it a z4 its.toArray
    obtain ⟨f0, f1, f2, f3, f4, f5⟩ := hf it (List.mem_cons_of_mem _ List.mem_cons_self)
    have big : its.toArray.size = i := by
      rw [List.size_toArray, ← rv.length]
      exact hx
    rw [← big] at z2
    exact wpAny_pyNext_enum_endD D z1 ⟨z2, tp⟩ fun g eb => ⟨rfl, I.turned (t' := s.toks) (fun b o m y => eb b o m y) f0 f1 f3 f4 f5⟩
  self := fun A i s Q E ⟨⟨_, z⟩, _⟩ h => wpAny_pyIter_enum z h
def iEnumT (K : PySem.W.Frag) (ta : TA) : TI := fun σ H R => ta σ H fun vs H1 => ∃ a xs, vs = [.ref a] ∧ SqT K H1 a xs ∧ R (ItE K a) H1
theorem pi_enumT {X : Cx} {e : Expr} {ta : TA} {p pos tpos : Pos} {elts : List Expr} {kk : Nat} (hg : Gl X "enumerate") (hm : X.mg "enumerate" = none) (ha : PA X [e] ta) (hs : starEach [e] X.env = [(false, eval e X.env)] := by rfl) :
    PI X (.Tuple elts kk tpos) (.Call (.Name "enumerate" p) [e] [] pos) (iEnumT X.K ta) := by
  refine ⟨fun pins s σ H R I h => Call_ (ld_blt I hg hm boot_enumerate (callWith_type1 (thn (ha.run pos pins s σ H _ I h) fun us s1 z => ?_) hs rfl))⟩
  obtain ⟨vs, H1, I1, r1, a, xs, rfl, hq, q⟩ := z
  rw [Vals.ref1 r1]
  obtain ⟨its, rv, tp, hz⟩ := I1.tuple hq
  have la : a < s1.heap.objs.size := by
    obtain ⟨o, ho, _⟩ := tp
    exact Heap.lt_size ho
  refine enumCall1 (begins_tuple a its.toArray) tp fun g z1 z2 z3 => wpAny_pyIter_enum z1 ?_
  have nn : ∀ b ∈ [s1.heap.objs.size + 1, s1.heap.objs.size], s1.heap.objs.size ≤ b := fun b m => by
    rcases List.mem_cons.mp m with y | y
    · omega
    · rw [List.mem_singleton.mp y]
      exact Nat.le_refl _
  exact ⟨_, _, _, _, H1, rfl, I1.kept (t' := s1.toks) z3, turn_enumT a (s1.heap.objs.size + 1) s1.heap.objs.size, ⟨⟨.none, z1⟩, ⟨_, z2, rfl, rfl⟩, Nat.succ_ne_self _, Nat.ne_of_lt la, Nat.ne_of_lt (Nat.lt_succ_of_lt la)⟩, fun b m => I1.fpOk (nn b m) (I1.hok.fresh (nn b m)), q⟩
/-! as data -/
def enumD (ds : List PyData) : List PyData := (List.range ds.length).zipWith (fun (i : Nat) d => PyData.tuple [.int (i : Int), d]) ds
theorem enumD_at {ds : List PyData} {i : Nat} {d : PyData} (h : (enumD ds)[i]? = some d) : ∃ x, ds[i]? = some x ∧ d = .tuple [.int (i : Int), x] := by
  unfold enumD at h
  rw [List.getElem?_zipWith] at h
  cases z1 : (List.range ds.length)[i]? with
  | none => rw [z1] at h; cases h
  | some j =>
    cases z2 : ds[i]? with
    | none => rw [z1, z2] at h; cases h
    | some x =>
      rw [z1, z2] at h
      obtain ⟨y1, y2⟩ := List.getElem?_eq_some_iff.mp z1
      rw [List.getElem_range] at y2
      subst y2
      cases h
      exact ⟨x, rfl, rfl⟩
theorem enumD_len {ds : List PyData} : (enumD ds).length = ds.length := by
  unfold enumD
  rw [List.length_zipWith, List.length_range, Nat.min_self]
section
variable {K : PySem.W.Frag} {G0 : Hp} {a : Addr} {xs : List V} {ds : List PyData}
theorem walk_enumT (h : SqT K G0 a xs) (q : DpAll K G0 xs ds) : WalkD K G0 (ItE K a) (enumD ds) := by
  intro G H s1 s2
  have hq : SqT K H a xs := seqT (s1.trans s2) h
  refine ⟨fun i d e => ?_, xs, hq, by rw [enumD_len, dpAll_len q]⟩
  obtain ⟨x, e1, rfl⟩ := enumD_at e
  obtain ⟨v, e2, e3⟩ := dpAll_get q e1
  refine ⟨⟨xs, v, hq, e2⟩, fun u H2 ⟨T, y, z1, z2, z3, z4⟩ => .inr ⟨T, [.int (i : Nat), y], _, z1, z2, z3, rfl, ?_⟩⟩
  have z5 := z4 xs hq
  rw [e2] at z5
  cases z5
  exact .cons (.int _) (.cons (dp_same s1 e3) .nil)
theorem walk_enumL (h : SqL K G0 a xs) (q : DpAll K G0 xs ds) : WalkD K G0 (Ite K a) (enumD ds) := by
  intro G H s1 s2
  have hq : SqL K H a xs := (s1.trans s2).seq h
  refine ⟨fun i d e => ?_, xs, hq, by rw [enumD_len, dpAll_len q]; exact Nat.le_refl _⟩
  obtain ⟨x, e1, rfl⟩ := enumD_at e
  obtain ⟨v, e2, e3⟩ := dpAll_get q e1
  refine ⟨⟨xs, v, hq, e2⟩, fun u H2 ⟨T, y, z1, z2, z3, z4⟩ => .inr ⟨T, [.int (i : Nat), y], _, z1, z2, z3, rfl, ?_⟩⟩
  have z5 := z4 xs hq
  rw [e2] at z5
  cases z5
  exact .cons (.int _) (.cons (dp_same s1 e3) .nil)
end
def i_enum (f : Fe) : Fi := fun e => match i_seq f e with
  | some (ds, e1) => some (enumD ds, e1)
  | none => none
theorem id_enum {X : Cx} {a : Expr} {fa : Fe} {pos p tpos : Pos} {elts : List Expr} {kk : Nat} (ha : ED X a fa) (hm : X.mg "enumerate" = none) (hg : Gl X "enumerate" := by rfl) (hs : starEach [a] X.env = [(false, eval a X.env)] := by rfl) :
    ID X (.Tuple elts kk tpos) (.Call (.Name "enumerate" p) [a] [] pos) (i_enum fa) := by
  obtain ⟨t, pa, k⟩ := ha
  refine ⟨_, pi_or (pi_enum hg hm (pa_cons pa pa_nil hs) hs) (pi_enumT hg hm (pa_cons pa pa_nil hs) hs), fun m E G0 G e σ H ds e' Q R q P => ?_⟩
  unfold i_enum at q
  cases h1 : i_seq fa e with
  | none => rw [h1] at q; cases q
  | some z =>
    obtain ⟨ds0, e1⟩ := z
    rw [h1] at q
    cases q
    obtain ⟨r, q1, q2⟩ := i_seq_ok h1
    rcases q2 with q2 | q2
    · refine .inl (k m E G0 G e σ H r _ _ R q1 fun v G1 H1 R1 S1 V1 N1 => ?_)
      obtain ⟨G2, R2, S2, s2, V2⟩ := R1.freeze S1 V1 N1
      rw [q2] at V2
      have V3 : Dp X.K G2 v (.list ds0) := V2
      cases V3 with
      | lst h z => exact ⟨_, _, rfl, R2.gh.seq h, P _ _ _ R2 S2 (walk_enumL h z)⟩
    · refine .inr (k m E G0 G e σ H r _ _ R q1 fun v G1 H1 R1 S1 V1 N1 => ?_)
      obtain ⟨G2, R2, S2, s2, V2⟩ := R1.freeze S1 V1 N1
      rw [q2] at V2
      have V3 : Dp X.K G2 v (.tuple ds0) := V2
      cases V3 with
      | tup h z => exact ⟨_, _, rfl, seqT R2.gh h, P _ _ _ R2 S2 (walk_enumT h z)⟩
end DL
namespace DL
open PySem PySem.Spec PySem.W PyProof.Rows L2

/-! ### max, min of a tuple of ints too -/
theorem fold_maxI : ∀ (r : List Int) (a b : Int), r.foldl max (max a b) = max a (r.foldl max b)
  | [], _, _ => rfl
  | c :: r, a, b => by
    rw [List.foldl_cons, List.foldl_cons, show max (max a b) c = max a (max b c) by omega]
    exact fold_maxI r a (max b c)
theorem maxI_fold : ∀ (r : List Int) (a : Int), r.foldl max a = maxI (a :: r)
  | [], _ => rfl
  | b :: r, a => by
    rw [List.foldl_cons, fold_maxI, maxI_fold r b]
    rfl
theorem fold_minI : ∀ (r : List Int) (a b : Int), r.foldl min (min a b) = min a (r.foldl min b)
  | [], _, _ => rfl
  | c :: r, a, b => by
    rw [List.foldl_cons, List.foldl_cons, show min (min a b) c = min a (min b c) by omega]
    exact fold_minI r a (min b c)
theorem minI_fold : ∀ (r : List Int) (a : Int), r.foldl min a = minI (a :: r)
  | [], _ => rfl
  | b :: r, a => by
    rw [List.foldl_cons, fold_minI, minI_fold r b]
    rfl
theorem alikeAll_ints (ns : List Int) : AlikeAll (ns.map PyData.int) := by
  refine ⟨fun x hx y hy => ?_, fun x hx => ?_⟩
  · obtain ⟨i, _, rfl⟩ := List.mem_map.mp hx
    obtain ⟨j, _, rfl⟩ := List.mem_map.mp hy
    rfl
  · obtain ⟨i, _, rfl⟩ := List.mem_map.mp hx
    exact fun z => by cases z
section
variable {X : Cx}
def rMaxT (K : PySem.W.Frag) : List V → Hp → VK → Prop := fun vs H Q => ∃ (a : Addr) (n : Int) (ns : List Int), vs = [.ref a] ∧ SqT K H a ((n :: ns).map V.int) ∧ Q (.int (maxI (n :: ns))) H
def rMinT (K : PySem.W.Frag) : List V → Hp → VK → Prop := fun vs H Q => ∃ (a : Addr) (n : Int) (ns : List Int), vs = [.ref a] ∧ SqT K H a ((n :: ns).map V.int) ∧ Q (.int (minI (n :: ns))) H
theorem cr_maxT (hc : X.calm = true) (hu : X.A.units + 64 < cLine) : CallR X (.builtin "max") (rMaxT X.K) := by
  intro pins s σ H vs us Q I r h
  obtain ⟨a, n, ns, rfl, hs, q⟩ := h
  obtain ⟨its, rv, tp, hz⟩ := I.tuple hs
  rw [Vals.ref1 r]
  obtain ⟨as, hr⟩ := Dp.readsAll I _ _ its (dpAll_ints (n :: ns)) rv
  refine max_tuple_data (x := .int n) (xs := ns.map PyData.int) (as := as) (I.ok.hd hc) tp hr (alikeAll_ints (n :: ns)) (by
    have z := depth_ints (n :: ns)
    rw [List.map_cons] at z
    rw [z]
    omega) fun i v g tk bs _ rd hk => ?_
  rw [maxD_ints, maxI_fold] at rd
  cases rd with
  | int _ t => exact ⟨.int _, H, I.kept hk, ⟨t, rfl⟩, q⟩
theorem cr_minT (hc : X.calm = true) (hu : X.A.units + 64 < cLine) : CallR X (.builtin "min") (rMinT X.K) := by
  intro pins s σ H vs us Q I r h
  obtain ⟨a, n, ns, rfl, hs, q⟩ := h
  obtain ⟨its, rv, tp, hz⟩ := I.tuple hs
  rw [Vals.ref1 r]
  obtain ⟨as, hr⟩ := Dp.readsAll I _ _ its (dpAll_ints (n :: ns)) rv
  refine min_tuple_data (x := .int n) (xs := ns.map PyData.int) (as := as) (I.ok.hd hc) tp hr (alikeAll_ints (n :: ns)) (by
    have z := depth_ints (n :: ns)
    rw [List.map_cons] at z
    rw [z]
    omega) fun i v g tk bs _ rd hk => ?_
  rw [minD_ints, minI_fold] at rd
  cases rd with
  | int _ t => exact ⟨.int _, H, I.kept hk, ⟨t, rfl⟩, q⟩
end
def c_intsT (g : List Int → Option Rs) : List PyData → Option Rs
  | [.tuple ds] => (match unI ds with
    | some ns => g ns
    | none => none)
  | _ => none
theorem intsT_ok {g : List Int → Option Rs} {ds : List PyData} {r : Rs} (q : c_intsT g ds = some r) : ∃ ns, ds = [.tuple (ns.map PyData.int)] ∧ g ns = some r := by
  unfold c_intsT at q
  split at q
  · rename_i es
    split at q
    · rename_i ns h
      rw [unI_ok h]
      exact ⟨ns, rfl, q⟩
    · cases q
  · cases q
def c_maxT : List PyData → Option Rs := c_intsT fun ns => if ns.isEmpty = true then none else some (.im (.int (maxI ns)))
def c_minT : List PyData → Option Rs := c_intsT fun ns => if ns.isEmpty = true then none else some (.im (.int (minI ns)))
section
variable {K : PySem.W.Frag}
theorem lv_intsT {G H : Hp} {vs : List V} {ns : List Int} (s : Same G H) (l : LvAll K G H vs [.tuple (ns.map PyData.int)]) : ∃ p, vs = [.ref p] ∧ SqT K H p (ns.map V.int) := by
  obtain ⟨v, rfl, lv⟩ := lv1 l
  obtain ⟨p, ws, rfl, s1, k⟩ := lv.tup s
  rw [dp_ints k] at s1
  exact ⟨p, rfl, s1⟩
theorem vc_maxT : VC K (rMaxT K) c_maxT := by
  intro m E G0 G e σ H vs ds rr Q R l q P
  obtain ⟨ns, rfl, q2⟩ := intsT_ok q
  clear q
  obtain ⟨p, rfl, s1⟩ := lv_intsT R.gh l
  cases ns with
  | nil => cases q2
  | cons a r =>
    cases q2
    exact ⟨p, a, r, rfl, s1, P.now R (.int _) True.intro⟩
theorem vc_minT : VC K (rMinT K) c_minT := by
  intro m E G0 G e σ H vs ds rr Q R l q P
  obtain ⟨ns, rfl, q2⟩ := intsT_ok q
  clear q
  obtain ⟨p, rfl, s1⟩ := lv_intsT R.gh l
  cases ns with
  | nil => cases q2
  | cons a r =>
    cases q2
    exact ⟨p, a, r, rfl, s1, P.now R (.int _) True.intro⟩
end
def c_maxA : List PyData → Option Rs := orC c_max c_maxT
def c_minA : List PyData → Option Rs := orC c_min c_minT
theorem vc_maxA {K : PySem.W.Frag} : VC K (fun vs H Q => rMax K vs H Q ∨ rMaxT K vs H Q) c_maxA := VC.or vc_max vc_maxT
theorem vc_minA {K : PySem.W.Frag} : VC K (fun vs H Q => rMin K vs H Q ∨ rMinT K vs H Q) c_minA := VC.or vc_min vc_minT
theorem cr_maxA {X : Cx} (hc : X.calm = true) (hu : X.A.units + 64 < cLine) : CallR X (.builtin "max") (fun vs H Q => rMax X.K vs H Q ∨ rMaxT X.K vs H Q) := CallR.or (cr_max hc) (cr_maxT hc hu)
theorem cr_minA {X : Cx} (hc : X.calm = true) (hu : X.A.units + 64 < cLine) : CallR X (.builtin "min") (fun vs H Q => rMin X.K vs H Q ∨ rMinT X.K vs H Q) := CallR.or (cr_min hc) (cr_minT hc hu)

/-! ### sorted: ints, or tuples of ints -/
def unT : List PyData → Option (List (List Int))
  | [] => some []
  | .tuple d :: ds => (match unI d, unT ds with
    | some k, some ks => some (k :: ks)
    | _, _ => none)
  | _ :: _ => none
theorem unT_ok : ∀ {ds : List PyData} {ks : List (List Int)}, unT ds = some ks → ds = ks.map tI
  | [], ks, h => by
    cases h
    rfl
  | d :: ds, ks, h => by
    unfold unT at h
    split at h
    · rename_i z
      cases z
    · rename_i d0 ds0 z
      cases z
      split at h
      · rename_i k ks0 h1 h2
        cases h
        rw [unI_ok h1, unT_ok h2]
        rfl
      · cases h
    · cases h
theorem unT_map : ∀ (ks : List (List Int)), unT (ks.map tI) = some ks
  | [] => rfl
  | k :: ks => by
    have e : ∀ (k : List Int), unI (k.map PyData.int) = some k := by
      intro k
      induction k with
      | nil => rfl
      | cons i k ih =>
        show (unI (k.map PyData.int)).map (i :: ·) = _
        rw [ih]
        rfl
    show (match unI (k.map PyData.int), unT (ks.map tI) with
      | some k, some ks => some (k :: ks)
      | _, _ => none) = _
    rw [e, unT_map ks]
def c_sortedT : List PyData → Option Rs
  | [.list ds] => (match unT ds with
    | some ks => if okT ks = true then some (.ac ((upT ks).map tI)) else none
    | none => none)
  | _ => none
theorem vc_sortedT {K : PySem.W.Frag} : VC K (rSortTL K) c_sortedT := by
  intro m E G0 G e σ H vs ds rr Q R l q P
  unfold c_sortedT at q
  split at q
  · rename_i es
    split at q
    · rename_i ks h
      by_cases ok : okT ks = true
      · rw [if_pos ok] at q
        cases q
        rw [unT_ok h] at l
        obtain ⟨v, rfl, lv⟩ := lv1 l
        obtain ⟨p, ws, rfl, s1, k⟩ := lv.list R.gh
        refine ⟨G, p, ws, ks, R.gh, rfl, s1, k, ok, fun ys p2 d hp => ?_⟩
        obtain ⟨R', S', V', N'⟩ := R.newL hp d
        exact P _ _ _ R' S' V' N'
      · rw [if_neg ok] at q
        cases q
    · cases q
  · cases q
def c_sortedA : List PyData → Option Rs := orC c_sortedI c_sortedT
theorem vc_sortedA {K : PySem.W.Frag} : VC K (fun vs H Q => rSortedI K vs H Q ∨ rSortTL K vs H Q) c_sortedA := VC.or vc_sortedI vc_sortedT
theorem cr_sortedA {X : Cx} (hu : X.A.units + 64 < cLine) : CallR X (.builtin "sorted") (fun vs H Q => rSortedI X.K vs H Q ∨ rSortTL X.K vs H Q) := CallR.or cr_sortedI (cr_sortTL hu)

/-! ### list(range(..)), tuple(range(..)) -/
def rgOkB (a b : Int) : Bool := decide (-(2 ^ 62) ≤ a) && (decide (a < 2 ^ 62) && (decide (-(2 ^ 62) ≤ b) && (decide (b < 2 ^ 62) && decide ((b - a).toNat ≤ 2 ^ 24))))
theorem rgOkB_ok {a b : Int} (h : rgOkB a b = true) : RgOk a b := by
  unfold rgOkB at h
  simp only [Bool.and_eq_true, decide_eq_true_eq] at h
  exact h
def rgL (a b : Int) : List PyData := (List.range (b - a).toNat).map fun (j : Nat) => PyData.int (a + (j : Int))
theorem rgV_dp {K : PySem.W.Frag} {G : Hp} (a b : Int) : DpAll K G (rgV a b) (rgL a b) := by
  unfold rgV rgL
  induction (List.range (b - a).toNat) with
  | nil => exact .nil
  | cons i r ih => exact .cons (.int _) ih
abbrev Fg := Ev → Option (Int × Int × Ev)
def g_rg1 (fa : Fe) : Fg := fun e => match fa e with
  | some (.im (.int b), e1) => some (0, b, e1)
  | _ => none
def g_rg2 (fa fb : Fe) : Fg := fun e => match fa e with
  | some (.im (.int a), e1) => (match fb e1 with
    | some (.im (.int b), e2) => some (a, b, e2)
    | _ => none)
  | _ => none
structure RgD (X : Cx) (x : Expr) (f : Fg) : Prop where
  ex : ∃ t, PRg X x t ∧ ∀ (m : Option Addr) (E : Ef) (G0 G : Hp) (e : Ev) (σ : St) (H : Hp) (a b : Int) (e' : Ev) (Q : Int → Int → Hp → Prop),
    Rl X.K m E G0 G e σ H → f e = some (a, b, e') → (∀ G' H', Rl X.K m E G0 G' e' σ H' → Stp σ G H e G' H' e' → Q a b H') → t σ H Q
section
variable {X : Cx} {a b : Expr} {fa fb : Fe} {p pos : Pos}
theorem rgd1 (ha : ED X a fa) (hm : X.mg "range" = none) (hg : Gl X "range" := by rfl) (na : starEach [a] X.env = (false, eval a X.env) :: starEach [] X.env := by rfl) : RgD X (.Call (.Name "range" p) [a] [] pos) (g_rg1 fa) := by
  obtain ⟨t, pa, k⟩ := ha
  refine ⟨_, prg_1 hg hm pa na, fun m E G0 G e σ H i j e' Q R q P => ?_⟩
  unfold g_rg1 at q
  split at q
  · rename_i b e1 h1
    cases q
    refine k m E G0 G e σ H _ _ _ R h1 fun v G1 H1 R1 S1 V1 _ => ?_
    cases V1
    exact ⟨_, rfl, P _ _ R1 S1⟩
  · cases q
theorem rgd2 (ha : ED X a fa) (hb : ED X b fb) (hm : X.mg "range" = none) (hg : Gl X "range" := by rfl) (na : starEach [a, b] X.env = (false, eval a X.env) :: starEach [b] X.env := by rfl) (nb : starEach [b] X.env = (false, eval b X.env) :: starEach [] X.env := by rfl)
    (hp : (backTo pos (starEach [b] X.env)).any (·.1) = false := by rfl) : RgD X (.Call (.Name "range" p) [a, b] [] pos) (g_rg2 fa fb) := by
  obtain ⟨t, pa, k⟩ := ha
  obtain ⟨t2, pb, k2⟩ := hb
  refine ⟨_, prg_2 hg hm pa pb na nb hp, fun m E G0 G e σ H i j e' Q R q P => ?_⟩
  unfold g_rg2 at q
  split at q
  · rename_i a1 e1 h1
    split at q
    · rename_i b1 e2 h2
      cases q
      refine k m E G0 G e σ H _ _ _ R h1 fun v G1 H1 R1 S1 V1 _ => ?_
      cases V1
      refine k2 m E G0 G1 e1 σ H1 _ _ _ R1 h2 fun v G2 H2 R2 S2 V2 _ => ?_
      cases V2
      exact ⟨_, _, rfl, rfl, P _ _ R2 (S1.trans S2)⟩
    · cases q
  · cases q
def x_lrg (f : Fg) : Fe := fun e => match f e with
  | some (a, b, e1) => if rgOkB a b = true then some (.ac (rgL a b), e1) else none
  | none => none
def x_trg (f : Fg) : Fe := fun e => match f e with
  | some (a, b, e1) => if rgOkB a b = true then some (.im (.tuple (rgL a b)), e1) else none
  | none => none
theorem ed_lrg {f : Fg} (h : RgD X a f) (hc : X.calm = true) (hm : X.mg "list" = none) (hg : Gl X "list" := by rfl) (na : starEach [a] X.env = (false, eval a X.env) :: starEach [] X.env := by rfl) : ED X (.Call (.Name "list" p) [a] [] pos) (x_lrg f) := by
  obtain ⟨t, pr, k⟩ := h
  refine ⟨_, pe_listRg hc hg hm pr na, fun m E G0 G e σ H r e' Q R q P => ?_⟩
  unfold x_lrg at q
  split at q
  · rename_i i j e1 h1
    by_cases z : rgOkB i j = true
    · rw [if_pos z] at q
      cases q
      refine k m E G0 G e σ H i j _ _ R h1 fun G1 H1 R1 S1 => ⟨rgOkB_ok z, fun l hl => ?_⟩
      obtain ⟨R', S', V', N'⟩ := R1.newL hl (rgV_dp (K := X.K) (G := G1) i j)
      exact P _ _ _ R' (S1.trans S') V' (nw_back S1 _ N')
    · rw [if_neg z] at q
      cases q
  · cases q
theorem ed_trg {f : Fg} (h : RgD X a f) (hc : X.calm = true) (hm : X.mg "tuple" = none) (hg : Gl X "tuple" := by rfl) (na : starEach [a] X.env = (false, eval a X.env) :: starEach [] X.env := by rfl) : ED X (.Call (.Name "tuple" p) [a] [] pos) (x_trg f) := by
  obtain ⟨t, pr, k⟩ := h
  refine ⟨_, pe_tupRg hc hg hm pr na, fun m E G0 G e σ H r e' Q R q P => ?_⟩
  unfold x_trg at q
  split at q
  · rename_i i j e1 h1
    by_cases z : rgOkB i j = true
    · rw [if_pos z] at q
      cases q
      refine k m E G0 G e σ H i j _ _ R h1 fun G1 H1 R1 S1 => ⟨rgOkB_ok z, fun l hl => ?_⟩
      obtain ⟨R', S', V'⟩ := R1.newT hl (rgV_dp (K := X.K) (G := G1) i j)
      exact P _ _ _ R' (S1.trans S') V' True.intro
    · rw [if_neg z] at q
      cases q
  · cases q
end
end DL
namespace DL
open PySem PySem.Spec PySem.W PyProof.Rows L2 Calls

/-! ### set(xs), xs a list of tuples of ints, few of them distinct -/
abbrev AK := List (Addr × List Int)
/-- no more than 62 distinct ones -/
def FewK (ks : List (List Int)) : Prop := ∃ D : List (List Int), D.length < 63 ∧ ∀ k ∈ ks, k ∈ D
theorem nodup_le {α : Type} [DecidableEq α] : ∀ (l D : List α), l.Nodup → (∀ x ∈ l, x ∈ D) → l.length ≤ D.length
  | [], D, _, _ => Nat.zero_le _
  | x :: l, D, n, h => by
    obtain ⟨n1, n2⟩ := List.nodup_cons.mp n
    have m := h x List.mem_cons_self
    have r := nodup_le l (D.erase x) n2 fun y hy => (List.mem_erase_of_ne fun e => n1 (by rw [← e]; exact hy)).mpr (h y (List.mem_cons_of_mem _ hy))
    have e := List.length_erase_of_mem m
    have p := List.length_pos_of_mem m
    show l.length + 1 ≤ D.length
    omega
section
variable {P : Program} {w : World} {A : Around} {E : Value → Shared → Prop} {I S : Addr} {fp wr : List Addr} {G : Array GenState → Array GenState → Prop} {Pv : Nat → Value → Prop} {St : Nat → Shared → Prop} {g0 : Heap} {ks : AK}
/-- what stands while the set at S is filled -/
def Fill (P : Program) (w : World) (S : Addr) (g0 : Heap) (ks : AK) (i : Nat) (g : Heap) : Prop := (∀ b o, g0.get? b = some o → g.get? b = some o) ∧ ∃ L es ep t, SetTR P w g S L es ep t ∧ Got ks i L
theorem Fill.move {g : Heap} {i : Nat} {g' : Heap} (F : Fill P w S g0 ks i g) (isT : ∀ p ∈ ks, IsT P w g0 p.2 p.1) (nw : ∀ b ∈ wr, g0.get? b = none) (nS : S ∉ wr) (mv : ∀ b o, b ∉ wr → g.get? b = some o → g'.get? b = some o) : Fill P w S g0 ks i g' := by
  obtain ⟨f1, L, es, ep, t, f2, f3⟩ := F
  have f4 : ∀ b o, g0.get? b = some o → g'.get? b = some o := fun b o y => mv b o (fun m => by rw [nw b m] at y; cases y) (f1 b o y)
  exact ⟨f4, L, es, ep, t, f2.keep (fun o y => mv S o nS y) fun p m => isT_keep (isT p (List.mem_of_mem_take (f3.sub p m))) f4, f3⟩
theorem fill_all (W : WalksS P w A.in1 I fp wr G ks.length Pv St) (nfp : S ∉ fp) (few : FewK (ks.map (·.2))) (at_ : ∀ i v, Pv i v → ∃ p, ks[i]? = some p ∧ v = .ref p.1) (isT : ∀ p ∈ ks, IsT P w g0 p.2 p.1) (S0 : g0.get? S = none) (nw : ∀ b ∈ wr, g0.get? b = none) (hu : A.in1.units < cLine)
    {R : Result → Shared → Prop} : ∀ (left i : Nat) (s : Shared), i + left = ks.length → St i s → Fill P w S g0 ks i s.heap → (∀ s', Moved (S :: wr) G s s' → Fill P w S g0 ks ks.length s'.heap → R (.ok (.ret .none)) s') → codeAny (model P w) A (.builtin "set.update.loop" ⟨[.ref S, .ref I], []⟩) R s := by
  have nS : S ∉ wr := fun m => nfp (W.sub _ m)
  have op := F.entry_set_update_loop
  have pl := F.plain_set_update_loop
  intro left
  induction left with
  | zero =>
    intro i s hi st FF k
    have hi : i = ks.length := by omega
    subst hi
    refine codeAny_builtin op ?_
    rw [Around.under_plainId pl]
    exact wpAny_bind (W.done s _ _ st fun s' mv => wpAny_pure (k s' (mv.mono fun b m => List.mem_cons_of_mem _ m) (FF.move isT nw nS mv.heap)))
  | succ left ih =>
    intro i s hi st FF k
    have li : i < ks.length := by omega
    refine codeAny_builtin op ?_
    rw [Around.under_plainId pl]
    refine wpAny_bind (W.item i s _ _ li st fun v s1 pv st1 mv => ?_)
    obtain ⟨⟨x, key⟩, atx, rfl⟩ := at_ i v pv
    obtain ⟨f1, L, es, ep, t, f2, f3⟩ := FF.move isT nw nS mv.heap
    have isX : IsT P w s1.heap key x := isT_keep (isT _ (List.mem_of_getElem? atx)) f1
    have room : L.length + 1 < 64 := by
      obtain ⟨D, d1, d2⟩ := few
      have z := nodup_le (L.map (·.2)) D f2.nd fun kk m => by
        obtain ⟨p, pm, rfl⟩ := List.mem_map.mp m
        exact d2 _ (List.mem_map.mpr ⟨p, List.mem_of_mem_take (f3.sub p pm), rfl⟩)
      rw [List.length_map] at z
      omega
    refine wpAny_bind (wpAny_holding (wpAny_holding (wpAny_bind (wpAny_pyHash_tuple hu isX ?_))))
    refine add_at (s := { s1 with toks := s1.toks + (key.length + 1) }) f2 isX hu room fun b g2 L2 es2 ep2 t2 sb r2 c1 c2 => wpAny_pure ⟨plainId_quiet pl _, ?_⟩
    have got : Got ks (i + 1) L2 := by
      by_cases c : key ∈ L.map (·.2)
      · rw [c1 c]
        exact f3.same atx c
      · exact f3.more atx (c2 c)
    have f4 : ∀ b o, g0.get? b = some o → g2.get? b = some o := fun b o y => (sb.2 b fun z => by rw [z, S0] at y; cases y).trans (f1 b o y)
    refine ih (i + 1) _ (by omega) (W.frame _ s1 _ _ st1 (Nat.le_add_right _ _) fun b m o y => (sb.2 b fun z => nfp (by rw [← z]; exact m)).trans y) ⟨f4, L2, es2, ep2, t2, r2, got⟩ fun s3 mv3 F3 => k s3 ?_ F3
    exact Moved.trans W.gtrans ((mv.mono fun b m => List.mem_cons_of_mem _ m).then_heap (Nat.le_add_right _ _) fun b o m y => (sb.2 b fun z => m (by rw [z]; exact List.mem_cons_self)).trans y) mv3
end
/-- the filling -/
theorem setF_init {P : Program} {w : World} {A : Around} {E : Value → Shared → Prop} {s : Shared} {l S : Addr} {its : List Value} {ks : AK} {g0 : Heap} {R : Value → Shared → Prop} (hh : A.handled = none) (hl : s.heap.IsList l its.toArray) (ei : its = ks.map fun p => Value.ref p.1)
    (hS : s.heap.get? S = some { cls := .type "set", dict := none, data := .set #[] 0 (.fresh 0 0 (!w.params.followText "set-order")) }) (isT : ∀ p ∈ ks, IsT P w g0 p.2 p.1) (few : FewK (ks.map (·.2))) (hu : A.in1.in1.units < cLine) (k0 : ∀ b o, g0.get? b = some o → s.heap.get? b = some o) (S0 : g0.get? S = none) (lS : l ≠ S)
    (k : ∀ g tk L es ep t, SetTR P w g S L es ep t → Got ks ks.length L → (∀ b o, g0.get? b = some o → g.get? b = some o) → R .none { s with heap := g, toks := tk }) : codeAny (model P w) A (.call (.builtin "set.__init__") ⟨[.ref S, .ref l], []⟩) (wants R E) s := by
  have tyS : s.TypeIs (.ref S) "set" := ⟨_, hS, rfl⟩
  refine codeAny_call_builtin (R := wants R E) F.called_set.init.plain F.entry_set_init (check_set_init_1 tyS ?_)
  have hl0 := hl
  obtain ⟨⟨c1, c2, c3, c4⟩, c5, c6, c7, c8⟩ := hl
  simp only at c6 c8
  subst c6 c8
  have t1 := F.sub_list_set
  have t2 := F.sub_list_frozenset
  have t3 : (Value.type "dict" == Value.type "list") = false := by decide
  have t4 : (Value.type "list" == .type "dict") = false := by decide
  have lt1 : l < s.heap.objs.size := Heap.lt_size c5
  have lt2 : S < s.heap.objs.size := Heap.lt_size hS
  unfold Builtin.«set.__init__»
  unfold noKeywords Builtin.Frozenset.updateFrom
  generalize ePI : pyIter = PI
  wp_walk
  subst ePI
  refine wpAny_pyIter_list hl0 (wpAny_bind (wpAny_runValue ?_))
  have hh3 : A.in1.in1.handled = none := hh
  have at_ : ∀ (i : Nat) (v : Value), its.toArray[i]? = some v → ∃ p, ks[i]? = some p ∧ v = .ref p.1 := fun i v y => by
    have y2 : its[i]? = some v := by simpa using y
    rw [ei, List.getElem?_map] at y2
    cases z : ks[i]? with
    | none => rw [z] at y2; cases y2
    | some p => rw [z] at y2; exact ⟨p, rfl, (Option.some.inj y2).symm⟩
  have szk : its.toArray.size = ks.length := by rw [List.size_toArray, ei, List.length_map]
  have I0 : g0.get? s.heap.objs.size = none := by
    cases z : g0.get? s.heap.objs.size with
    | none => rfl
    | some o => exact absurd (Heap.lt_size (k0 _ _ z)) (Nat.lt_irrefl _)
  have W := (Walks.list (prog := P) (w := w) hh3 s.heap.objs.size l (Nat.ne_of_lt lt1) its.toArray).toS
  rw [szk] at W
  have nS : S ∉ [s.heap.objs.size, l] := fun m => by
    rcases List.mem_cons.mp m with y | y
    · exact absurd y (Nat.ne_of_lt lt2)
    · exact lS (List.mem_singleton.mp y).symm
  have nw : ∀ b ∈ [s.heap.objs.size], g0.get? b = none := fun b m => by rw [List.mem_singleton.mp m]; exact I0
  have hf := Heap.get?_push_of_some ({ cls := .type "list_iterator", data := .fields #[.ref l, .int 0 0] } : Obj) hS
  refine fill_all W nS few at_ isT S0 nw hu ks.length 0 _ (Nat.zero_add _) ?_ ?_ fun s3 mv F3 => ?_
  · exact ⟨⟨_, Heap.get?_push_size _ rfl, rfl, rfl⟩, hl0.push _⟩
  · exact ⟨fun b o y => Heap.get?_push_of_some _ (k0 b o y), [], #[], 0, _, setTR_fresh hf, Got.zero ks⟩
  obtain ⟨f1, L, es, ep, t, f2, f3⟩ := F3
  obtain ⟨g3, gn3, d3, tk3, o3⟩ := s3
  obtain rfl : gn3 = s.gens := mv.gens
  obtain rfl : d3 = s.drawn := mv.drawn
  obtain rfl : o3 = s.os := mv.os
  exact wpAny_pure (show wpAny _ _ (ret Value.none) _ _ _ from wpAny_pure (k g3 tk3 L es ep t f2 f3 f1))
/-- the call -/
theorem setF_call {P : Program} {w : World} {A : Around} {E : Value → Shared → Prop} {s : Shared} {l : Addr} {its : List Value} {ks : AK} {Q : Value → Shared → Prop} (hh : A.handled = none) (hl : s.heap.IsList l its.toArray) (ei : its = ks.map fun p => Value.ref p.1) (isT : ∀ p ∈ ks, IsT P w s.heap p.2 p.1) (few : FewK (ks.map (·.2))) (hu : A.units + 3 < cLine)
    (h : ∀ g tk L es ep t, SetTR P w g s.heap.objs.size L es ep t → Got ks ks.length L → (∀ b o, s.heap.get? b = some o → g.get? b = some o) → Q (.ref s.heap.objs.size) { s with heap := g, toks := tk }) : wpAny (model P w) A (call (.type "set") [.ref l]) Q E s := by
  obtain ⟨c, tl, m0⟩ := F.called_set.mro
  have m1 := F.called_set.made
  have m2 := F.called_set.sub
  have m3 := F.called_set.notType
  have m4 := F.called_set.canCreate
  have m5 := F.typeCall_set_1 (.ref l)
  have sz := s.heap.objs.size
  refine wpAny_call (codeAny_of_tree (show wpAny _ _ (callAny (.type "set") _) _ _ _ from wpAny_pure ⟨Code.quiet_builtin _ (by decide +kernel), codeAny_builtin F.entry_type_call ?_⟩))
  rw [Around.under_plain (weight_type_call_type "set" _ []) rfl]
  repeat any_goals first | assumption | wp_step
  generalize eN : s.heap.push { cls := .type "set", dict := none, data := .set #[] 0 (.fresh 0 0 (!w.params.followText "set-order")) } = N
  refine codeAny_mono (code_set_led1 (.ref l) (E := E) (Q₁ := fun o s1 => o = .ref s.heap.objs.size ∧ s1 = { s with heap := N }) ⟨rfl, by rw [eN]⟩) fun r s1 hr => ?_
  rcases r with er | fl
  · exact hr
  rcases fl with _ | _ | _ | ob
  · exact hr.elim
  · exact hr.elim
  · exact hr.elim
  obtain ⟨rfl, rfl⟩ := hr
  have atS : N.get? s.heap.objs.size = some { cls := .type "set", dict := none, data := .set #[] 0 (.fresh 0 0 (!w.params.followText "set-order")) } := by rw [← eN]; exact Heap.get?_push_size _ rfl
  have keepN : ∀ b o, s.heap.get? b = some o → N.get? b = some o := fun b o y => by rw [← eN]; exact Heap.get?_push_of_some _ y
  have szN : N.objs.size = s.heap.objs.size + 1 := by rw [← eN]; exact Heap.size_push ..
  have tyS : Shared.TypeIs { s with heap := N } (.ref s.heap.objs.size) "set" := ⟨_, atS, rfl⟩
  have n1 := F.called_set.init.lookup
  have n2 := F.called_set.init.bind (.ref s.heap.objs.size)
  repeat any_goals first | assumption | wp_step
  have hlN : N.IsList l its.toArray := hl.at fun o y => keepN l o y
  have S0 : s.heap.get? s.heap.objs.size = none := by
    cases z : s.heap.get? s.heap.objs.size with
    | none => rfl
    | some o => exact absurd (Heap.lt_size z) (Nat.lt_irrefl _)
  have lS : l ≠ s.heap.objs.size := by
    obtain ⟨o, y, _⟩ := hl
    exact Nat.ne_of_lt (Heap.lt_size y)
  refine codeAny_mono (setF_init (P := P) (w := w) (A := A.in1) (E := E) (s := { s with heap := N }) (R := fun v s2 => v = .none ∧ ∃ g tk L es ep t, s2 = { s with heap := g, toks := tk } ∧ SetTR P w g s.heap.objs.size L es ep t ∧ Got ks ks.length L ∧ ∀ b o, s.heap.get? b = some o → g.get? b = some o)
    hh hlN ei atS isT few hu keepN S0 lS fun g tk L es ep t f1 f2 f3 => ⟨rfl, g, tk, L, es, ep, t, rfl, f1, f2, f3⟩) fun r2 s2 hr2 => ?_
  rcases r2 with er | fl
  · exact hr2
  rcases fl with _ | _ | _ | ob
  · exact hr2.elim
  · exact hr2.elim
  · exact hr2.elim
  obtain ⟨rfl, g, tk, L, es, ep, t, rfl, f1, f2, f3⟩ := hr2
  repeat any_goals first | assumption | wp_step
  exact h g tk L es ep t f1 f2 f3
end DL
namespace DL
open PySem PySem.Spec PySem.W PyProof.Rows L2 Calls

/-! ### sorted(set(xs)) -/
theorem perm_map_inv {α β : Type} {f : α → β} {us ws : List β} (p : us.Perm ws) : ∀ {L : List α}, ws = L.map f → ∃ L' : List α, L'.Perm L ∧ us = L'.map f := by
  induction p with
  | nil =>
    intro L e
    exact ⟨L, .refl _, e⟩
  | cons x p ih =>
    intro L e
    cases L with
    | nil => cases e
    | cons y L =>
      rw [List.map_cons] at e
      injection e with e1 e2
      obtain ⟨L', q1, q2⟩ := ih e2
      exact ⟨y :: L', q1.cons y, by rw [List.map_cons, ← e1, q2]⟩
  | swap x y l =>
    intro L e
    match L, e with
    | a :: b :: L, e =>
      rw [List.map_cons, List.map_cons] at e
      injection e with e1 e2
      injection e2 with e2 e3
      exact ⟨b :: a :: L, .swap a b L, by rw [List.map_cons, List.map_cons, e1, e2, e3]⟩
    | [], e => cases e
    | [a], e => cases e
  | trans p q ih1 ih2 =>
    intro L e
    obtain ⟨L1, q1, q2⟩ := ih2 e
    obtain ⟨L2, q3, q4⟩ := ih1 q2
    exact ⟨L2, q3.trans q1, q4⟩
def FromL (L : AK) (v : Value) (k : List Int) : Prop := ∃ q ∈ L, v = .ref q.1 ∧ q.2 = k
theorem fromL_all {L : AK} : ∀ {L' : AK}, (∀ q ∈ L', q ∈ L) → EachIs (FromL L) (L'.map fun q => Value.ref q.1) (L'.map (·.2))
  | [], _ => .nil
  | q :: L', h => .cons ⟨q, h q List.mem_cons_self, rfl, rfl⟩ (fromL_all fun r m => h r (List.mem_cons_of_mem _ m))
theorem isT_reads {P : Program} {w : World} {h : Heap} {k : List Int} {a : Addr} (x : IsT P w h k a) : Reads h (.ref a) (tI k) [] := by
  obtain ⟨b, its, e, ⟨o, ho, hc, n, hd⟩, hi⟩ := tupInts_of x
  cases e
  have r : ∀ {vs : List Value} {ns : List Int}, IntsAre vs ns → ReadsAll h vs (ns.map PyData.int) [] := by
    intro vs ns hi
    induction hi with
    | nil => exact .nil
    | cons i t _ ih => exact .cons (.int i t) ih
  exact Reads.tuple ho hc hd (r hi)
theorem sortF_call {P : Program} {w : World} {A : Around} {E : Value → Shared → Prop} {s : Shared} {a : Addr} {L : AK} {es : Array (Int × Value)} {ep : Nat} {t : SetTable} {Q : Value → Shared → Prop} (R : SetTR P w s.heap a L es ep t) (hh : A.handled = none) (ok : okT (L.map (·.2)) = true) (hu : A.units + 5 < cLine)
    (h : ∀ s' p out c, (∀ b o, s.heap.get? b = some o → s'.heap.get? b = some o) → s'.gens = s.gens → s'.os = s.os → s.heap.objs.size ≤ p → s'.heap.get? p = some (seqObj "list" (List.toArray out) c) → EachIs (FromL L) out (upT (L.map (·.2))) → Q (.ref p) s') :
    wpAny (model P w) A (call (.builtin "sorted") [.ref a]) Q E s := by
  obtain ⟨o, ho, hex, hd⟩ := R.ob
  have few := R.few
  have szR := R.size
  refine Calls.call_function_entry kind_sorted plain_sorted entry_sorted (args_sorted1 _) (show wpAny _ A.in1 (Builtin.«sorted» _) _ _ s from ?_)
  unfold Builtin.«sorted»
  refine wpAny_bind (m := checkCount "sorted" 1 1 _) (wpAny_pure (wpAny_bind (collect_set hh ⟨o, ho, hex.1, hd⟩ R.fits (by unfold scanBound; omega) R.tab.ris R.led fun s1 vs k1 z1 g1 o1 pm => ?_)))
  have er : es.toList.map (·.2) = L.map fun q => Value.ref q.1 := by
    rw [R.rows]
    unfold L2.rowsOf
    rw [List.map_map]
    rfl
  rw [er] at pm
  obtain ⟨L1, p1, rfl⟩ := perm_map_inv pm rfl
  have lv : (L1.map fun q => Value.ref q.1).length < 64 := by
    rw [List.length_map, p1.length_eq]
    exact few
  refine wpAny_bind (wpAny_newList ?_ (by rw [sizeLine_eq]; omega))
  generalize eN : s1.heap.push { cls := .type "list", data := .seq (L1.map fun q => Value.ref q.1).toArray } = N
  have atN : N.get? s1.heap.objs.size = some (seqObj "list" (L1.map fun q => Value.ref q.1).toArray 0) := by rw [← eN]; exact Heap.get?_push_size _ rfl
  have kN : ∀ b u, s.heap.get? b = some u → N.get? b = some u := fun b u y => by rw [← eN]; exact Heap.get?_push_of_some _ (k1 b u y)
  have eR : upT (L1.map (·.2)) = upT (L.map (·.2)) := upT_congr (p1.map _)
  have okL : okT (L1.map (·.2)) = true := by
    unfold okT at ok ⊢
    rw [List.length_map] at ok ⊢
    rw [p1.length_eq]
    rw [Bool.or_eq_true] at ok ⊢
    rcases ok with ok | ok
    · exact .inl ok
    · refine .inr (List.all_eq_true.mpr fun k m => List.all_eq_true.mp ok k ?_)
      exact (p1.map _).mem_iff.mp m
  have rd : EachIs (fun v k => ∃ as, Reads N v (tI k) as ∧ s1.heap.objs.size ∉ as) (L1.map fun q => Value.ref q.1) (L1.map (·.2)) :=
    (fromL_all fun q m => p1.mem_iff.mp m).mono fun v k ⟨q, m, e1, e2⟩ => ⟨[], by rw [e1, ← e2]; exact isT_reads (isT_keep (R.tup q m) kN), by simp⟩
  refine wpAny_bind (wpAny_holding (sort_tlist (s := { s1 with heap := N }) (R := FromL L) atN (fromL_all fun q m => p1.mem_iff.mp m) rd okL (by rw [List.length_map, p1.length_eq, sizeLine_eq]; omega) (by show A.units + 1 + 3 < cLine; omega) fun out eo => ?_))
  rw [eR] at eo
  obtain ⟨c, hc⟩ := sortedHeap_at (vs := L1.map fun q => Value.ref q.1) (out := List.toArray out) atN
  refine wpAny_pure ⟨_, rfl, h _ s1.heap.objs.size out c (fun b u y => ?_) g1 o1 z1 hc eo⟩
  have y1 := k1 b u y
  have y2 := Heap.lt_size y1
  have szN : N.objs.size = s1.heap.objs.size + 1 := by rw [← eN]; exact Heap.size_push ..
  exact (sortedHeap_old (Nat.ne_of_lt y2) (by rw [szN]; exact Nat.lt_succ_of_lt y2)).trans (kN b u y)
/-! by values -/
section
variable {X : Cx}
def rSetF (K : PySem.W.Frag) (P : Program) (w : World) : List V → Hp → VK → Prop := fun vs H Q => ∃ (l : Addr) (ks : AK), vs = [.ref l] ∧ SqL K H l (ks.map fun p => V.ref p.1) ∧ (∀ p ∈ ks, SqT K H p.1 (p.2.map V.int)) ∧ FewK (ks.map (·.2)) ∧
  ∀ a L, H a = none → (∀ p ∈ L, p ∈ ks) → (∀ p ∈ ks, p.2 ∈ L.map (·.2)) → (L.map (·.2)).Nodup → Q (.ref a) (upd H a (SetTO P w a L))
theorem cr_setF (hc : X.calm = true) (hu : X.A.units + 64 < cLine) : CallR X (.type "set") (rSetF X.K X.prog X.w) := by
  intro pins s σ H vs us Q I r h
  obtain ⟨l, ks, rfl, hl, hk, few, q⟩ := h
  rw [Vals.ref1 r]
  obtain ⟨its, rv, pl, hz⟩ := I.list hl
  refine setF_call (P := X.prog) (w := X.w) (ks := ks) (I.ok.hd hc) pl.isList (refs_of_vals rv) (fun p m => I.isT (hk p m)) few (by omega) fun g tk L es ep t R got kp => ?_
  have nw : H s.heap.objs.size = none := I.hok.fresh (Nat.le_refl _)
  exact ⟨.ref s.heap.objs.size, upd H s.heap.objs.size (SetTO X.prog X.w s.heap.objs.size L), I.laid (t' := tk) kp (Nat.le_refl _) (setTO_new R.t0), rfl, q _ L nw (fun p m => List.mem_of_mem_take (got.sub p m)) (fun p m => got.all p (by rw [List.take_length]; exact m)) R.nd⟩
def FromV (L : AK) (v : V) (k : List Int) : Prop := ∃ q ∈ L, v = .ref q.1 ∧ q.2 = k
def rSortF (K : PySem.W.Frag) (P : Program) (w : World) : List V → Hp → VK → Prop := fun vs H Q => ∃ (a : Addr) (L : AK), vs = [.ref a] ∧ H a = some (SetTO P w a L) ∧ (∀ p ∈ L, SqT K H p.1 (p.2.map V.int)) ∧ okT (L.map (·.2)) = true ∧
  ∀ ys p, EachIs (FromV L) ys (upT (L.map (·.2))) → H p = none → Q (.ref p) (upd H p (.lst ys))
theorem fromV_of {L : AK} : ∀ {us : List Value} {ks : List (List Int)}, EachIs (FromL L) us ks → ∃ ys, Vals ys us ∧ EachIs (FromV L) ys ks
  | _, _, .nil => ⟨[], .nil, .nil⟩
  | _, _, .cons ⟨q, m, e1, e2⟩ t => by
    obtain ⟨ys, r1, r2⟩ := fromV_of t
    exact ⟨.ref q.1 :: ys, .cons (show RelV (.ref q.1) _ by rw [e1]; rfl) r1, .cons ⟨q, m, rfl, e2⟩ r2⟩
theorem cr_sortF (hc : X.calm = true) (hu : X.A.units + 64 < cLine) : CallR X (.builtin "sorted") (rSortF X.K X.prog X.w) := by
  rintro pins s σ H _ us Q I r ⟨a, L, rfl, ha, hk, ok, q⟩
  obtain ⟨es, ep, t, R⟩ := (I.hok a _ ha).1.full fun p m => I.isT (hk p m)
  cases Vals.ref1 r
  refine sortF_call R (I.ok.hd hc) ok (by omega) fun s' p out c old gens os lies at_ from_ => ?_
  obtain ⟨ys, vals, ev⟩ := fromV_of from_
  have few : ys.length < 64 := by
    rw [ev.length, (upT_perm _).length_eq, List.length_map]
    exact R.few
  have free : H p = none := I.hok.fresh lies
  have ok' := I.hok.laid (o := .lst ys) old lies ⟨by rw [sizeLine_eq]; omega, out, c, vals, at_⟩
  obtain ⟨heap', gens', drawn', toks', os'⟩ := s'
  cases os
  exact ⟨.ref p, _, I.call (ch := []) (Un.laid old lies free) ok' (by rw [show gens' = s.gens from gens]; exact I.bare) (fun _ z => nomatch z), rfl, q ys p ev free⟩
end
/-! as data -/
def dedupT : List (List Int) → List (List Int)
  | [] => []
  | k :: ks => if k ∈ dedupT ks then dedupT ks else k :: dedupT ks
theorem mem_dedupT {k : List Int} : ∀ {ks : List (List Int)}, k ∈ dedupT ks ↔ k ∈ ks
  | [] => Iff.rfl
  | x :: ks => by
    unfold dedupT
    have ih := mem_dedupT (k := k) (ks := ks)
    by_cases h : x ∈ dedupT ks
    · rw [if_pos h, ih, List.mem_cons]
      constructor
      · exact .inr
      · rintro (e | m)
        · rw [e]; exact mem_dedupT.mp h
        · exact m
    · rw [if_neg h, List.mem_cons, List.mem_cons, ih]
theorem nodup_dedupT : ∀ (ks : List (List Int)), (dedupT ks).Nodup
  | [] => List.nodup_nil
  | x :: ks => by
    unfold dedupT
    by_cases h : x ∈ dedupT ks
    · rw [if_pos h]
      exact nodup_dedupT ks
    · rw [if_neg h]
      exact List.nodup_cons.mpr ⟨h, nodup_dedupT ks⟩
theorem perm_of_mem {α : Type} [DecidableEq α] {xs ys : List α} (n1 : xs.Nodup) (n2 : ys.Nodup) (h : ∀ a, a ∈ xs ↔ a ∈ ys) : xs.Perm ys := (List.perm_ext_iff_of_nodup n1 n2).mpr h
def c_sset : List PyData → Option Rs
  | [.list ds] => (match unT ds with
    | some ks => if (okT (dedupT ks) && decide ((dedupT ks).length < 63)) = true then some (.ac ((upT (dedupT ks)).map tI)) else none
    | none => none)
  | _ => none
def x_sset (fa : Fa) : Fe := x_cb c_sset fa
theorem split_ak {K : PySem.W.Frag} {G : Hp} : ∀ {ws : List V} {ks : List (List Int)}, DpAll K G ws (ks.map tI) → ∃ aks : AK, ws = aks.map (fun p => V.ref p.1) ∧ aks.map (·.2) = ks ∧ ∀ p ∈ aks, SqT K G p.1 (p.2.map V.int)
  | _, [], .nil => ⟨[], rfl, rfl, fun p m => by cases m⟩
  | _, k :: ks, .cons h t => by
    obtain ⟨aks, e1, e2, e3⟩ := split_ak t
    cases h with
    | tup hs ha =>
      rw [dp_ints ha] at hs
      refine ⟨(_, k) :: aks, by rw [List.map_cons, ← e1], by rw [List.map_cons, e2], fun p m => ?_⟩
      rcases List.mem_cons.mp m with e | m
      · rw [e]; exact hs
      · exact e3 p m
/-- any new object -/
theorem Rl.newO {K : PySem.W.Frag} {m : Option Addr} {E : Ef} {G0 G H : Hp} {e : Ev} {σ : St} {p : Addr} {o : HO} (R : Rl K m E G0 G e σ H) (h : H p = none) : Rl K m E G0 G e σ (upd H p o) ∧ Stp σ G H e G (upd H p o) e := by
  have nb : ∀ {b : Addr}, H b ≠ none → b ≠ p := fun {b} z y => z (by rw [y]; exact h)
  refine ⟨⟨R.gg, R.gh.trans (same_new h), fun b u b1 b2 => same_new h b u (R.eh b u b1 b2), fun b b1 => ⟨(R.mh b b1).1, ?_⟩, R.nw, R.len, R.im, fun i ds' z => ?_, R.inj, R.nl⟩, Same.refl _, fun _ b1 _ => b1, fun b u b1 _ => same_new h b u b1, fun _ => rfl, fun b b1 => ?_⟩
  · rw [upd_ne (nb (R.mh b b1).2)]
    exact (R.mh b b1).2
  · obtain ⟨p', ws', z1, z2, z3, z4, z5⟩ := R.ac i ds' z
    have y : p' ≠ p := nb (by rw [z3]; simp)
    exact ⟨p', ws', z1, z2, by rw [upd_ne y]; exact z3, z4, z5⟩
  · rw [upd_ne (nb b1)]
    exact b1
theorem ed_sset {X : Cx} {a : Expr} {fa : Fa} {p p2 q1 pos : Pos} (h : AD X [a] fa) (hm : X.mg "sorted" = none) (hm2 : X.mg "set" = none) (hc : X.calm = true) (hu : X.A.units + 64 < cLine) (hg : Gl X "sorted" := by rfl) (hg2 : Gl X "set" := by rfl)
    (na : starEach [a] X.env = (false, eval a X.env) :: starEach [] X.env := by rfl)
    (nb : starEach [.Call (.Name "set" p2) [a] [] q1] X.env = (false, eval (.Call (.Name "set" p2) [a] [] q1) X.env) :: starEach [] X.env := by rfl) (h1 : (backTo pos (starEach [] X.env)).any (·.1) = false := by rfl) (h2 : (backTo q1 (starEach [] X.env)).any (·.1) = false := by rfl) :
    ED X (.Call (.Name "sorted" p) [.Call (.Name "set" p2) [a] [] q1] [] pos) (x_sset fa) := by
  obtain ⟨t, pa, k⟩ := h
  refine ⟨_, pe_callB (cr_sortF hc hu) hg hm (by decide +kernel) (pa_cons (pe_callTy (cr_setF hc hu) hg2 hm2 (by decide +kernel) pa (by decide) (by decide) na h2) pa_nil nb) (by decide) (by decide) nb h1, fun m E G0 G e σ H r e' Q R q P => ?_⟩
  unfold x_sset x_cb at q
  cases z1 : argsD fa e with
  | none => rw [z1] at q; cases q
  | some z =>
    obtain ⟨ds, e1⟩ := z
    rw [z1] at q
    cases z2 : c_sset ds with
    | none => simp only [z2] at q; cases q
    | some r2 =>
      simp only [z2, Option.some.injEq, Prod.mk.injEq] at q
      obtain ⟨rfl, rfl⟩ := q
      obtain ⟨rs, q1, q2⟩ := argsD_ok z1
      unfold c_sset at z2
      split at z2
      · rename_i es
        split at z2
        · rename_i ks z3
          by_cases z4 : (okT (dedupT ks) && decide ((dedupT ks).length < 63)) = true
          · rw [if_pos z4] at z2
            cases z2
            rw [Bool.and_eq_true, decide_eq_true_eq] at z4
            refine k m E G0 G e σ H rs e1 _ R q1 fun vs G1 H1 R1 S1 V1 => ?_
            have LL := R1.lookAll V1 q2
            rw [unT_ok z3] at LL
            obtain ⟨v, rfl, lv⟩ := lv1 LL
            obtain ⟨l, ws, rfl, s1, d1⟩ := lv.list R1.gh
            obtain ⟨aks, rfl, e2, e3⟩ := split_ak d1
            refine ⟨l, aks, rfl, s1, fun p m => seqT R1.gh (e3 p m), ⟨dedupT ks, z4.2, fun kk m => mem_dedupT.mpr (by rw [← e2]; exact m)⟩, fun a L ha sub all nd => ?_⟩
            have pm : (L.map (·.2)).Perm (dedupT ks) := perm_of_mem nd (nodup_dedupT ks) fun kk => by
              rw [mem_dedupT, ← e2]
              constructor
              · intro m
                obtain ⟨p, pm, rfl⟩ := List.mem_map.mp m
                exact List.mem_map.mpr ⟨p, sub p pm, rfl⟩
              · intro m
                obtain ⟨p, pm, rfl⟩ := List.mem_map.mp m
                exact all p pm
            obtain ⟨R2, S2⟩ := R1.newO (o := SetTO X.prog X.w a L) ha
            have okL : okT (L.map (·.2)) = true := by
              have ok := z4.1
              unfold okT at ok ⊢
              rw [pm.length_eq]
              rw [Bool.or_eq_true] at ok ⊢
              rcases ok with ok | ok
              · exact .inl ok
              · exact .inr (List.all_eq_true.mpr fun k m => List.all_eq_true.mp ok k (pm.mem_iff.mp m))
            refine ⟨a, L, rfl, upd_same, fun p m => seqT R2.gh (e3 p (sub p m)), okL, fun ys p ey hp => ?_⟩
            rw [upT_congr pm] at ey
            have dy : ∀ {ys : List V} {ks : List (List Int)}, EachIs (FromV L) ys ks → DpAll X.K G1 ys (ks.map tI) := by
              intro ys ks ey
              induction ey with
              | nil => exact .nil
              | cons h _ ih =>
                obtain ⟨q, m, x1, x2⟩ := h
                refine .cons ?_ ih
                rw [x1, ← x2]
                exact .tup (e3 q (sub q m)) (dpAll_ints q.2)
            obtain ⟨R3, S3, V3, N3⟩ := R2.newL hp (dy ey)
            exact P _ _ _ R3 (S1.trans (S2.trans S3)) V3 (nw_back (S1.trans S2) _ N3)
          · rw [if_neg z4] at z2
            cases z2
        · cases z2
      · cases z2
end DL
namespace DL
open PySem PySem.Spec PySem.W PyProof.Rows L2

/-! ### small things -/
/-- fuel for a loop that goes down by the int in a slot -/
def fuI (j : Nat) (e : Ev) : Nat := match e[j]? with
  | some (some (.im (.int i))) => i.toNat + 1
  | _ => 0
def s_retN : Fs := fun e => some (.rt (.im .none) e)
/-- a def under its name, every parameter written -/
theorem kfN {P : Program} {w : World} {K : PySem.W.Frag} {mg : Str → Option Value} {base : Heap} {x qual : Str} {params : Arguments} {body : List Stmt} {scope : Scope} {kws : List (Str × V)} {f : Addr} {fd : FuncData} {k : Nat} {sp : Sp} {ps : List Str}
    (F : FunD K x qual params body scope [] kws f fd) (ok : FnOk P w K mg base CX0 k f fd ps sp) (g : mg x = some (.ref f))
    (h : ∀ (kV doc pm : Value) (an : Option Addr) (cdv ct : Value) (us : List Value), us.length = ps.length → bindArgs (PySem.W.fnOf x qual params body scope .none kV doc pm an cdv ct) ⟨us, []⟩ = pure (ps.zip us)) : Kf P w K mg base k x sp [] :=
  ⟨f, fd, ps, [], ok, g, F.kp, F.bindsN h, .nil⟩
/-- .. the defaults behind the first j fill up -/
theorem kfD {P : Program} {w : World} {K : PySem.W.Frag} {mg : Str → Option Value} {base : Heap} {x qual : Str} {params : Arguments} {body : List Stmt} {scope : Scope} {dvs dvs' : List V} {kws : List (Str × V)} {f : Addr} {fd : FuncData} {k : Nat} {sp : Sp} {ps : List Str}
    (F : FunD K x qual params body scope dvs kws f fd) (ok : FnOk P w K mg base CX0 k f fd ps sp) (g : mg x = some (.ref f)) (b : ∃ ds, Vals dvs' ds ∧ Binds K fd ps ds) : Kf P w K mg base k x sp dvs' := by
  obtain ⟨ds, h1, h2⟩ := b
  exact ⟨f, fd, ps, ds, ok, g, F.kp, h2, h1⟩
end DL
namespace DL
open PySem PySem.Spec PySem.W PyProof.Rows L2

/-! ### reckoning: what the operators give -/
def nD (n : Nat) : PyData := .int (n : Int)
section
variable {i j : Int}
theorem e_add : p_add (.int i) (.int j) = some (.im (.int (i + j))) := rfl
theorem e_sub : p_sub (.int i) (.int j) = some (.im (.int (i - j))) := rfl
theorem e_lt : p_lt (.int i) (.int j) = some (.im (.bool (decide (i < j)))) := rfl
theorem e_le : p_le (.int i) (.int j) = some (.im (.bool (decide (i ≤ j)))) := rfl
theorem e_gt : p_gt (.int i) (.int j) = some (.im (.bool (decide (j < i)))) := rfl
theorem e_ge : p_ge (.int i) (.int j) = some (.im (.bool (decide (j ≤ i)))) := rfl
theorem e_eq : p_eq (.int i) (.int j) = some (.im (.bool (decide (i = j)))) := by
  show some (Rs.im (.bool (i == j))) = _
  rw [Bool.beq_eq_decide_eq]
theorem e_ne : p_ne (.int i) (.int j) = some (.im (.bool (!decide (i = j)))) := by
  show some (Rs.im (.bool (!(i == j)))) = _
  rw [Bool.beq_eq_decide_eq]
theorem e_mod (h : 0 < j) : p_mod (.int i) (.int j) = some (.im (.int (i % j))) := by
  show ((if decide (0 < j) = true then some (PyData.int (i % j)) else none).map Rs.im) = _
  rw [if_pos (decide_eq_true h)]
  rfl
theorem e_div (h : 0 < j) (h2 : j < 1073741824) : p_div (.int i) (.int j) = some (.im (.int (i / j))) := by
  show ((if divC i j = true then some (PyData.int (i / j)) else none).map Rs.im) = _
  rw [show divC i j = true from decide_eq_true ⟨h, h2⟩]
  rfl
theorem e_mul (h : (-18446744073709551616 < i ∧ i < 18446744073709551616) ∨ (-18446744073709551616 < j ∧ j < 18446744073709551616)) : p_mul (.int i) (.int j) = some (.im (.int (i * j))) := by
  unfold p_mul orF
  have e : (d_int2 (fun i j => .int (i * j)) mulC (.int i) (.int j)).map Rs.im = some (.im (.int (i * j))) := by
    show ((if mulC i j = true then some (PyData.int (i * j)) else none).map Rs.im) = _
    rw [show mulC i j = true from decide_eq_true h]
    rfl
  simp only [e]
end
theorem okLen_yes {n : Nat} (h : n ≤ 16777216) : okLen n = true := decide_eq_true h
theorem e_cat {a b : List PyData} (h : a.length + b.length ≤ 16777216) : p_add (.list a) (.list b) = some (.ac (a ++ b)) := by
  show orF _ (orF q_cat q_catT) (.list a) (.list b) = _
  have e : q_cat (.list a) (.list b) = some (.ac (a ++ b)) := if_pos (okLen_yes h)
  simp only [orF, d_int2, Option.map_none, e]
theorem e_catT {a b : List PyData} (h : a.length + b.length ≤ 16777216) : p_add (.tuple a) (.tuple b) = some (.im (.tuple (a ++ b))) := by
  show orF _ (orF q_cat q_catT) (.tuple a) (.tuple b) = _
  have e : q_catT (.tuple a) (.tuple b) = some (.im (.tuple (a ++ b))) := if_pos (okLen_yes h)
  simp only [orF, d_int2, Option.map_none, q_cat, e]
theorem e_isnone : p_is .none .none = some (.im (.bool true)) := rfl
theorem e_isT {ds : List PyData} : p_is (.tuple ds) .none = some (.im (.bool false)) := rfl
theorem e_isnotnone : p_isnot .none .none = some (.im (.bool false)) := rfl
theorem e_isnotT {ds : List PyData} : p_isnot (.tuple ds) .none = some (.im (.bool true)) := rfl
theorem e_isB {a b : Bool} : p_is (.bool a) (.bool b) = some (.im (.bool (decide (a = b)))) := rfl
theorem e_isnotB {a b : Bool} : p_isnot (.bool a) (.bool b) = some (.im (.bool (!decide (a = b)))) := rfl
theorem e_neB {a b : Bool} : p_ne (.bool a) (.bool b) = some (.im (.bool (!decide (a = b)))) := by
  cases a <;> cases b <;> rfl
theorem e_eqB {a b : Bool} : p_eq (.bool a) (.bool b) = some (.im (.bool (decide (a = b)))) := by
  cases a <;> cases b <;> rfl
/-! items -/
theorem atI_nat {α : Type} (ds : List α) (j : Nat) : atI ds (j : Int) = ds[j]? := by
  unfold atI ixN
  rw [if_pos (by omega)]
  by_cases h : j < ds.length
  · rw [if_pos (by omega)]
    simp
  · rw [if_neg (by omega), List.getElem?_eq_none (by omega)]
    rfl
theorem ixN_nat {n j : Nat} (h : j < n) : ixN n (j : Int) = some j := by
  unfold ixN
  rw [if_pos (by omega), if_pos (by omega)]
  simp
theorem e_ixT {ds : List PyData} {j : Nat} {d : PyData} (h : ds[j]? = some d) : p_ix (.tuple ds) (.int (j : Int)) = some (.im d) := by
  show (atI ds (j : Int)).map Rs.im = _
  rw [atI_nat, h]
  rfl
theorem e_ixL {ds : List PyData} {j : Nat} {d : PyData} (h : ds[j]? = some d) : p_ix (.list ds) (.int (j : Int)) = some (.im d) := by
  show (atI ds (j : Int)).map Rs.im = _
  rw [atI_nat, h]
  rfl
/-! lists of ints -/
theorem canLay_ints : ∀ ns : List Int, PyData.canLayAll0 (ns.map PyData.int) = true
  | [] => by simp [PyData.canLayAll0]
  | n :: ns => by
    rw [List.map_cons, PyData.canLayAll0, canLay_ints ns]
    rfl
theorem shaped_ints (ns : List Int) : SeqAt.shaped (.tuple (ns.map PyData.int)) = true ∧ SeqAt.shaped (.list (ns.map PyData.int)) = true := by
  have h : (PyData.tuple (ns.map PyData.int)).depth ≤ 64 ∧ (PyData.list (ns.map PyData.int)).depth ≤ 64 := by
    constructor
    · show PyData.depthAll (ns.map PyData.int) + 1 ≤ 64
      rw [depth_ints]
      decide
    · show PyData.depthAll (ns.map PyData.int) + 1 ≤ 64
      rw [depth_ints]
      decide
  constructor
  · unfold SeqAt.shaped
    rw [Bool.and_eq_true, PyData.canLay0, decide_eq_true_eq]
    exact ⟨canLay_ints ns, h.1⟩
  · unfold SeqAt.shaped
    rw [Bool.and_eq_true, PyData.canLay0, decide_eq_true_eq]
    exact ⟨canLay_ints ns, h.2⟩
theorem eqv_ints : ∀ (xs ys : List Int), PyData.eqvAll (xs.map PyData.int) (ys.map PyData.int) = decide (xs = ys)
  | [], [] => by simp [PyData.eqvAll]
  | [], y :: ys => by simp [PyData.eqvAll]
  | x :: xs, [] => by simp [PyData.eqvAll]
  | x :: xs, y :: ys => by
    rw [List.map_cons, List.map_cons, PyData.eqvAll, eqv_ints xs ys]
    simp [PyData.eqv, Bool.beq_eq_decide_eq]
theorem e_eqT (xs ys : List Int) : p_eq (.tuple (xs.map PyData.int)) (.tuple (ys.map PyData.int)) = some (.im (.bool (decide (xs = ys)))) := by
  unfold p_eq
  rw [(shaped_ints xs).1, (shaped_ints ys).1]
  show some (Rs.im (.bool (PyData.eqvAll _ _))) = _
  rw [eqv_ints]
theorem e_neT (xs ys : List Int) : p_ne (.tuple (xs.map PyData.int)) (.tuple (ys.map PyData.int)) = some (.im (.bool (!decide (xs = ys)))) := by
  unfold p_ne
  rw [(shaped_ints xs).1, (shaped_ints ys).1]
  show some (Rs.im (.bool (!PyData.eqvAll _ _))) = _
  rw [eqv_ints]
theorem e_eqL (xs ys : List Int) : p_eq (.list (xs.map PyData.int)) (.list (ys.map PyData.int)) = some (.im (.bool (decide (xs = ys)))) := by
  unfold p_eq
  rw [(shaped_ints xs).2, (shaped_ints ys).2]
  show some (Rs.im (.bool (PyData.eqvAll _ _))) = _
  rw [eqv_ints]
theorem flat_ints (ns : List Int) : (ns.map PyData.int).all flatD = true := by
  rw [List.all_eq_true]
  intro d m
  obtain ⟨i, _, rfl⟩ := List.mem_map.mp m
  rfl
theorem inD_ints (x : Int) : ∀ ns : List Int, inD (.int x) (ns.map PyData.int) = decide (x ∈ ns)
  | [] => by simp [inD]
  | n :: ns => by
    have ih := inD_ints x ns
    unfold inD at ih ⊢
    rw [List.map_cons, List.any_cons, ih]
    simp only [PyData.eqv, List.mem_cons]
    by_cases h : n = x
    · subst h
      simp
    · have h2 : ¬ x = n := fun z => h z.symm
      simp [h, h2]
theorem e_in (x : Int) (ns : List Int) : p_in (.int x) (.list (ns.map PyData.int)) = some (.im (.bool (decide (x ∈ ns)))) := by
  show (if (flatD (.int x) && (ns.map PyData.int).all flatD) = true then some (Rs.im (.bool (inD (.int x) (ns.map PyData.int)))) else none) = _
  rw [flat_ints, inD_ints]
  rfl
theorem e_notin (x : Int) (ns : List Int) : p_notin (.int x) (.list (ns.map PyData.int)) = some (.im (.bool (!decide (x ∈ ns)))) := by
  show (if (flatD (.int x) && (ns.map PyData.int).all flatD) = true then some (Rs.im (.bool (!inD (.int x) (ns.map PyData.int)))) else none) = _
  rw [flat_ints, inD_ints]
  rfl
def iN (l : List Nat) : List Int := l.map fun (n : Nat) => (n : Int)
theorem map_nD (l : List Nat) : l.map nD = (iN l).map PyData.int := by
  unfold iN
  rw [List.map_map]
  rfl
theorem iN_inj {l m : List Nat} : iN l = iN m ↔ l = m := by
  unfold iN
  constructor
  · intro h
    induction l generalizing m with
    | nil =>
      cases m with
      | nil => rfl
      | cons a m => cases h
    | cons a l ih =>
      cases m with
      | nil => cases h
      | cons b m =>
        rw [List.map_cons, List.map_cons] at h
        injection h with h1 h2
        rw [ih h2, Int.ofNat_inj.mp h1]
  · intro h
    rw [h]
theorem mem_iN {x : Nat} {l : List Nat} : (x : Int) ∈ iN l ↔ x ∈ l := by
  unfold iN
  rw [List.mem_map]
  constructor
  · rintro ⟨y, m, e⟩
    have : y = x := by omega
    rw [← this]
    exact m
  · intro m
    exact ⟨x, m, rfl⟩
theorem e_inN (x : Nat) (l : List Nat) : p_in (.int (x : Int)) (.list (l.map nD)) = some (.im (.bool (decide (x ∈ l)))) := by
  rw [map_nD, e_in]
  congr 3
  exact decide_eq_decide.mpr mem_iN
theorem e_notinN (x : Nat) (l : List Nat) : p_notin (.int (x : Int)) (.list (l.map nD)) = some (.im (.bool (!decide (x ∈ l)))) := by
  rw [map_nD, e_notin]
  congr 4
  exact decide_eq_decide.mpr mem_iN
theorem e_eqTN (l m : List Nat) : p_eq (.tuple (l.map nD)) (.tuple (m.map nD)) = some (.im (.bool (decide (l = m)))) := by
  rw [map_nD, map_nD, e_eqT]
  congr 3
  exact decide_eq_decide.mpr iN_inj
theorem e_neTN (l m : List Nat) : p_ne (.tuple (l.map nD)) (.tuple (m.map nD)) = some (.im (.bool (!decide (l = m)))) := by
  rw [map_nD, map_nD, e_neT]
  congr 4
  exact decide_eq_decide.mpr iN_inj
theorem unI_ints : ∀ (ns : List Int), unI (ns.map PyData.int) = some ns
  | [] => rfl
  | n :: ns => by
    show (unI (ns.map PyData.int)).map (n :: ·) = _
    rw [unI_ints ns]
    rfl
/-! ### loops -/
theorem forGo_nx {γ : PyData → Ev → Option Ev} {S : List Nat} {fb : Fs} (ds : List PyData) (E : Nat → Ev)
    (h : ∀ i d, ds[i]? = some d → okS S (E i) = true ∧ ∃ e2, γ d (E i) = some e2 ∧ (fb e2 = some (.nx (E (i + 1))) ∨ fb e2 = some (.ct (E (i + 1))))) : forGo γ S fb ds (E 0) = some (.nx (E ds.length)) := by
  induction ds generalizing E with
  | nil => rfl
  | cons d ds ih =>
    obtain ⟨h1, e2, h2, h3⟩ := h 0 d rfl
    have q := ih (fun i => E (i + 1)) fun i d hd => h (i + 1) d (by simpa using hd)
    show (if okS S (E 0) = true then _ else none) = _
    rw [if_pos h1, h2]
    rcases h3 with h3 | h3
    · simp only [h3]
      exact q
    · simp only [h3]
      exact q
/-- .. that ends early at k -/
theorem forGo_at {γ : PyData → Ev → Option Ev} {S : List Nat} {fb : Fs} (ds : List PyData) (E : Nat → Ev) (k : Nat) {dk : PyData} {ek : Ev} {fl : Fl} (hk : ds[k]? = some dk) (ok : okS S (E k) = true) (hg : γ dk (E k) = some ek)
    (hf : (∃ r e, fb ek = some (.rt r e) ∧ fl = .rt r e) ∨ (∃ e, fb ek = some (.bk e) ∧ fl = .nx e))
    (h : ∀ i d, i < k → ds[i]? = some d → okS S (E i) = true ∧ ∃ e2, γ d (E i) = some e2 ∧ (fb e2 = some (.nx (E (i + 1))) ∨ fb e2 = some (.ct (E (i + 1))))) : forGo γ S fb ds (E 0) = some fl := by
  induction ds generalizing E k with
  | nil => simp at hk
  | cons d ds ih =>
    cases k with
    | zero =>
      have e : d = dk := by simpa using hk
      subst e
      show (if okS S (E 0) = true then _ else none) = _
      rw [if_pos ok, hg]
      rcases hf with ⟨r, e, h1, rfl⟩ | ⟨e, h1, rfl⟩
      · simp only [h1]
      · simp only [h1]
    | succ k =>
      obtain ⟨h1, e2, h2, h3⟩ := h 0 d (Nat.succ_pos _) rfl
      have q := ih (fun i => E (i + 1)) k (by simpa using hk) ok hg fun i d hi hd => h (i + 1) d (by omega) (by simpa using hd)
      show (if okS S (E 0) = true then _ else none) = _
      rw [if_pos h1, h2]
      rcases h3 with h3 | h3
      · simp only [h3]
        exact q
      · simp only [h3]
        exact q
theorem whGo_nx {tst : Ft} {fb : Fs} (E : Nat → Ev) {k : Nat} {e' : Ev} (hk : tst (E k) = some (false, e')) : ∀ {n : Nat}, k < n → (∀ i, i < k → ∃ e2, tst (E i) = some (true, e2) ∧ (fb e2 = some (.nx (E (i + 1))) ∨ fb e2 = some (.ct (E (i + 1))))) → whGo tst fb n (E 0) = some (.nx e') := by
  induction k generalizing E with
  | zero =>
    intro n hn h
    cases n with
    | zero => omega
    | succ n =>
      simp only [whGo, hk]
  | succ k ih =>
    intro n hn h
    cases n with
    | zero => omega
    | succ n =>
      obtain ⟨e2, h1, h2⟩ := h 0 (by omega)
      have q := ih (fun i => E (i + 1)) hk (n := n) (by omega) fun i hi => h (i + 1) (by omega)
      rcases h2 with h2 | h2
      · simp only [whGo, h1, h2]
        exact q
      · simp only [whGo, h1, h2]
        exact q
/-! ### comprehensions -/
theorem rest_wipe (e : Ev) (vs : List Nat) : restE e (wipeE e vs) vs = e := by
  refine List.ext_getElem? fun j => ?_
  by_cases h : j ∈ vs
  · rw [restE_in (wipeE_len vs) h]
  · rw [restE_out h, wipeE_out h]
theorem lcGo_map {γ : PyData → Ev → Option Ev} {tst : Ft} {fe : Fe} {vs : List Nat} {E : Ev} {bl : PyData → Bool} {el : PyData → PyData} : ∀ (ds acc : List PyData), acc.length + ds.length ≤ 16777216 →
    (∀ d ∈ ds, ∃ a a2, γ d E = some a ∧ tst a = some (bl d, a2) ∧ (bl d = false → wipeE a2 vs = E) ∧ (bl d = true → ∃ r a3, fe a2 = some (r, a3) ∧ imR (frzR r) = some (el d) ∧ wipeE a3 vs = E)) →
    lcGo γ tst fe vs ds E acc = some (acc ++ (ds.filter bl).map el, E)
  | [], acc, _, _ => by simp [lcGo]
  | d :: ds, acc, hl, h => by
    obtain ⟨a, a2, h1, h2, h3, h4⟩ := h d List.mem_cons_self
    rw [List.length_cons] at hl
    simp only [lcGo, h1, h2]
    cases c : bl d with
    | false =>
      have q := lcGo_map ds acc (by omega) fun x m => h x (List.mem_cons_of_mem _ m)
      simp only [h3 c]
      rw [q, List.filter_cons_of_neg (by simp [c])]
    | true =>
      obtain ⟨r, a3, h5, h6, h7⟩ := h4 c
      have q := lcGo_map ds (acc ++ [el d]) (by simp only [List.length_append, List.length_cons, List.length_nil]; omega) fun x m => h x (List.mem_cons_of_mem _ m)
      simp only [h5, h6, h7]
      rw [if_pos (okLen_yes (by omega)), q, List.filter_cons_of_pos c, List.map_cons, List.append_assoc]
      rfl
theorem x_lc_map {fi : Fi} {γ : PyData → Ev → Option Ev} {tst : Ft} {fe : Fe} {vs : List Nat} {e e1 : Ev} {ds : List PyData} (bl : PyData → Bool) (el : PyData → PyData) (hi : fi e = some (ds, e1)) (hn : noAc e1 vs = true) (hl : ds.length ≤ 16777216)
    (h : ∀ d ∈ ds, ∃ a a2, γ d (wipeE e1 vs) = some a ∧ tst a = some (bl d, a2) ∧ (bl d = false → wipeE a2 vs = wipeE e1 vs) ∧ (bl d = true → ∃ r a3, fe a2 = some (r, a3) ∧ imR (frzR r) = some (el d) ∧ wipeE a3 vs = wipeE e1 vs)) :
    x_lc fi γ tst fe vs e = some (.ac ((ds.filter bl).map el), e1) := by
  unfold x_lc
  simp only [hi]
  rw [if_pos hn, lcGo_map ds [] (by simpa using hl) h]
  simp only [rest_wipe, List.nil_append]
/-- no if -/
theorem x_lc_all {fi : Fi} {γ : PyData → Ev → Option Ev} {fe : Fe} {vs : List Nat} {e e1 : Ev} {ds : List PyData} (el : PyData → PyData) (hi : fi e = some (ds, e1)) (hn : noAc e1 vs = true) (hl : ds.length ≤ 16777216)
    (h : ∀ d ∈ ds, ∃ a r a3, γ d (wipeE e1 vs) = some a ∧ fe a = some (r, a3) ∧ imR (frzR r) = some (el d) ∧ wipeE a3 vs = wipeE e1 vs) :
    x_lc fi γ t_yes fe vs e = some (.ac (ds.map el), e1) := by
  have q := x_lc_map (fi := fi) (γ := γ) (tst := t_yes) (fe := fe) (vs := vs) (e := e) (fun _ => true) el hi hn hl fun d m => by
    obtain ⟨a, r, a3, h1, h2, h3, h4⟩ := h d m
    exact ⟨a, a, h1, rfl, fun z => (by cases z), fun _ => ⟨r, a3, h2, h3, h4⟩⟩
  rw [q, List.filter_eq_self.mpr fun _ _ => rfl]
end DL
namespace DL
open PySem PySem.Spec PySem.W PyProof.Rows L2
/-! ### the evaluators, applied -/
theorem r_x_var (i : Nat) (e : Ev) : x_var i e = (match e[i]? with
  | some (some (.im d)) => some (.im d, e)
  | some (some (.ac _)) => some (.br i, e)
  | _ => none) := of_eq_true (eq_self _)
theorem r_x_c (d : PyData) (e : Ev) : x_c d e = (some (.im d, e)) := of_eq_true (eq_self _)
theorem r_two (fa fb : Fe) (e : Ev) : two fa fb e = (match fa e with
  | some (ra, e1) => (match fb e1 with
    | some (rb, e2) => some (frzR ra, frzR rb, e2)
    | none => none)
  | none => none) := of_eq_true (eq_self _)
theorem r_x_bin (φ : PyData → PyData → Option Rs) (fa fb : Fe) (e : Ev) : x_bin φ fa fb e = (match two fa fb e with
  | some p => (match look2 p with
    | some (a, b, e2) => (match φ a b with
      | some r => some (r, e2)
      | none => none)
    | none => none)
  | none => none) := of_eq_true (eq_self _)
theorem r_t_of (f : Fe) (e : Ev) : t_of f e = (match f e with
  | some (.im (.bool b), e1) => some (b, e1)
  | _ => none) := of_eq_true (eq_self _)
theorem r_t_not (f : Ft) (e : Ev) : t_not f e = (match f e with
  | some (b, e1) => some (!b, e1)
  | none => none) := of_eq_true (eq_self _)
theorem r_t_and (f g : Ft) (e : Ev) : t_and f g e = (match f e with
  | some (true, e1) => g e1
  | some (false, e1) => some (false, e1)
  | none => none) := of_eq_true (eq_self _)
theorem r_t_or (f g : Ft) (e : Ev) : t_or f g e = (match f e with
  | some (true, e1) => some (true, e1)
  | some (false, e1) => g e1
  | none => none) := of_eq_true (eq_self _)
theorem r_x_and (f g : Fe) (e : Ev) : x_and f g e = (match f e with
  | some (.im (.bool true), e1) => g e1
  | some (.im (.bool false), e1) => some (.im (.bool false), e1)
  | _ => none) := of_eq_true (eq_self _)
theorem r_x_or (f g : Fe) (e : Ev) : x_or f g e = (match f e with
  | some (.im (.bool true), e1) => some (.im (.bool true), e1)
  | some (.im (.bool false), e1) => g e1
  | _ => none) := of_eq_true (eq_self _)
theorem r_x_not (f : Fe) (e : Ev) : x_not f e = (match f e with
  | some (.im (.bool b), e1) => some (.im (.bool !b), e1)
  | _ => none) := of_eq_true (eq_self _)
theorem r_x_if (c : Ft) (f g : Fe) (e : Ev) : x_if c f g e = (match c e with
  | some (true, e1) => f e1
  | some (false, e1) => g e1
  | none => none) := of_eq_true (eq_self _)
theorem r_x_chain (φ ψ : PyData → PyData → Option Rs) (fa fb fc : Fe) (e : Ev) : x_chain φ ψ fa fb fc e = (match two fa fb e with
  | some p => (match look2 p with
    | some (a, b, e2) => (match φ a b with
      | some (.im (.bool true)) => (match fc e2 with
        | some (rc, e3) => (match lookR e3 p.2.1, lookR e3 (frzR rc) with
          | some b, some c => (match ψ b c with
            | some r => some (r, e3)
            | none => none)
          | _, _ => none)
        | none => none)
      | some (.im (.bool false)) => some (.im (.bool false), e2)
      | _ => none)
    | none => none)
  | none => none) := of_eq_true (eq_self _)
theorem r_a_nil (e : Ev) : a_nil  e = (some ([], e)) := of_eq_true (eq_self _)
theorem r_a_cons (fa : Fe) (fr : Fa) (e : Ev) : a_cons fa fr e = (match fa e with
  | some (r, e1) => (match fr e1 with
    | some (rs, e2) => some (frzR r :: rs, e2)
    | none => none)
  | none => none) := of_eq_true (eq_self _)
theorem r_argsD (fa : Fa) (e : Ev) : argsD fa e = (match fa e with
  | some (rs, e1) => (match lookAll e1 rs with
    | some ds => some (ds, e1)
    | none => none)
  | none => none) := of_eq_true (eq_self _)
theorem r_argsI (fa : Fa) (e : Ev) : argsI fa e = (match fa e with
  | some (rs, e1) => (match imAll rs with
    | some ds => some (ds, e1)
    | none => none)
  | none => none) := of_eq_true (eq_self _)
theorem r_x_tup (fa : Fa) (e : Ev) : x_tup fa e = (match argsI fa e with
  | some (ds, e1) => if okLen ds.length = true then some (.im (.tuple ds), e1) else none
  | none => none) := of_eq_true (eq_self _)
theorem r_x_lst (fa : Fa) (e : Ev) : x_lst fa e = (match argsI fa e with
  | some (ds, e1) => if okLen ds.length = true then some (.ac ds, e1) else none
  | none => none) := of_eq_true (eq_self _)
theorem r_x_rep (fa : Fa) (fb : Fe) (e : Ev) : x_rep fa fb e = (match argsI fa e with
  | some (ds, e1) => (match fb e1 with
    | some (.im (.int k), e2) => if (okLen ds.length && (decide (-9223372036854775808 ≤ k ∧ k < 9223372036854775808) && okLen (ds.length * k.toNat))) = true then some (.ac (List.replicate k.toNat ds).flatten, e2) else none
    | _ => none)
  | none => none) := of_eq_true (eq_self _)
theorem r_o_no (e : Ev) : o_no  e = (some (none, e)) := of_eq_true (eq_self _)
theorem r_o_at (f : Fe) (e : Ev) : o_at f e = (match f e with
  | some (.im (.int i), e1) => some (some i, e1)
  | _ => none) := of_eq_true (eq_self _)
theorem r_x_sl (fa : Fe) (fl fh : Fo) (e : Ev) : x_sl fa fl fh e = (match fa e with
  | some (r, e1) => (match fl e1 with
    | some (lo, e2) => (match fh e2 with
      | some (hi, e3) => (match lookR e3 (frzR r) with
        | some d => (match sliced lo hi d with
          | some r2 => some (r2, e3)
          | none => none)
        | none => none)
      | none => none)
    | none => none)
  | none => none) := of_eq_true (eq_self _)
theorem r_x_rev (fa : Fe) (e : Ev) : x_rev fa e = (match fa e with
  | some (r, e1) => (match lookR e1 (frzR r) with
    | some (.list ds) => some (.ac ds.reverse, e1)
    | _ => none)
  | none => none) := of_eq_true (eq_self _)
theorem r_x_neg (fa : Fe) (e : Ev) : x_neg fa e = (match fa e with
  | some (.im (.int i), e1) => some (.im (.int (-i)), e1)
  | _ => none) := of_eq_true (eq_self _)
theorem r_x_cb (φ : List PyData → Option Rs) (fa : Fa) (e : Ev) : x_cb φ fa e = (match argsD fa e with
  | some (ds, e1) => (match φ ds with
    | some r => some (r, e1)
    | none => none)
  | none => none) := of_eq_true (eq_self _)
theorem r_x_isi (T : Ty) (f : Fe) (e : Ev) : x_isi T f e = (match f e with
  | some (r, e1) => (match lookR e1 (frzR r) with
    | some d => (match isD T d with
      | some b => some (.im (.bool b), e1)
      | none => none)
    | none => none)
  | none => none) := of_eq_true (eq_self _)
theorem r_g_name (i : Nat) (d : PyData) (e : Ev) : g_name i d e = (some (e.set i (some (.im d)))) := of_eq_true (eq_self _)
theorem r_g_tup (S : List Nat) (d : PyData) (e : Ev) : g_tup S d e = (match d with
  | .tuple ds => setAll S ds e
  | _ => none) := of_eq_true (eq_self _)
theorem r_i_seq (f : Fe) (e : Ev) : i_seq f e = (match f e with
  | some (r, e1) => (match frzR r with
    | .im (.list ds) => some (ds, e1)
    | .im (.tuple ds) => some (ds, e1)
    | _ => none)
  | none => none) := of_eq_true (eq_self _)
theorem r_i_rev (f : Fe) (e : Ev) : i_rev f e = (match i_seq f e with
  | some (ds, e1) => some (ds.reverse, e1)
  | none => none) := of_eq_true (eq_self _)
theorem r_i_rng1 (fa : Fe) (e : Ev) : i_rng1 fa e = (match fa e with
  | some (.im (.int j), e1) => if rgC j = true then some (rngD 0 j.toNat 1, e1) else none
  | _ => none) := of_eq_true (eq_self _)
theorem r_i_rng2 (fa fb : Fe) (e : Ev) : i_rng2 fa fb e = (match fa e with
  | some (.im (.int i), e1) => (match fb e1 with
    | some (.im (.int j), e2) => if (rgC i && rgC j) = true then some (rngD i (j - i).toNat 1, e2) else none
    | _ => none)
  | _ => none) := of_eq_true (eq_self _)
theorem r_i_rng3 (fa fb fc : Fe) (e : Ev) : i_rng3 fa fb fc e = (match fa e with
  | some (.im (.int i), e1) => (match fb e1 with
    | some (.im (.int j), e2) => (match fc e2 with
      | some (.im (.int c), e3) => if (rgC i && (rgC j && decide (c = -1))) = true then some (rngD i (i - j).toNat (-1), e3) else none
      | _ => none)
    | _ => none)
  | _ => none) := of_eq_true (eq_self _)
theorem r_i_zip (fa fb : Fe) (e : Ev) : i_zip fa fb e = (match two fa fb e with
  | some (.im (.list xs), .im (.list ys), e1) => some (zipD xs ys, e1)
  | some (.im (.tuple xs), .im (.tuple ys), e1) => some (zipD xs ys, e1)
  | _ => none) := of_eq_true (eq_self _)
theorem r_x_lc (fi : Fi) (γ : PyData → Ev → Option Ev) (tst : Ft) (fe : Fe) (vs : List Nat) (e : Ev) : x_lc fi γ tst fe vs e = (match fi e with
  | some (ds, e1) => if noAc e1 vs = true then (match lcGo γ tst fe vs ds (wipeE e1 vs) [] with
    | some (acc, e2) => some (.ac acc, restE e1 e2 vs)
    | none => none) else none
  | none => none) := of_eq_true (eq_self _)
theorem r_t_yes (e : Ev) : t_yes  e = (some (true, e)) := of_eq_true (eq_self _)
theorem r_s_seq (f g : Fs) (e : Ev) : s_seq f g e = (match f e with
  | some (.nx e1) => g e1
  | some x => some x
  | none => none) := of_eq_true (eq_self _)
theorem r_s_nx (e : Ev) : s_nx  e = (some (.nx e)) := of_eq_true (eq_self _)
theorem r_s_bk (e : Ev) : s_bk  e = (some (.bk e)) := of_eq_true (eq_self _)
theorem r_s_ct (e : Ev) : s_ct  e = (some (.ct e)) := of_eq_true (eq_self _)
theorem r_s_drop (f : Fe) (e : Ev) : s_drop f e = (match f e with
  | some (_, e1) => some (.nx e1)
  | none => none) := of_eq_true (eq_self _)
theorem r_s_ret (f : Fe) (e : Ev) : s_ret f e = (match f e with
  | some (r, e1) => some (.rt r e1)
  | none => none) := of_eq_true (eq_self _)
theorem r_s_if (c : Ft) (f g : Fs) (e : Ev) : s_if c f g e = (match c e with
  | some (true, e1) => f e1
  | some (false, e1) => g e1
  | none => none) := of_eq_true (eq_self _)
theorem r_s_set (i : Nat) (f : Fe) (e : Ev) : s_set i f e = (match f e with
  | some (r, e1) => if okS [i] e1 = true then (match putA i e1 r with
    | some e2 => some (.nx e2)
    | none => none) else none
  | none => none) := of_eq_true (eq_self _)
theorem r_s_for (fi : Fi) (γ : PyData → Ev → Option Ev) (S : List Nat) (fb : Fs) (e : Ev) : s_for fi γ S fb e = (match fi e with
  | some (ds, e1) => forGo γ S fb ds e1
  | none => none) := of_eq_true (eq_self _)
theorem r_s_while (n : Ev → Nat) (tst : Ft) (fb : Fs) (e : Ev) : s_while n tst fb e = (whGo tst fb (n e) e) := of_eq_true (eq_self _)
theorem r_s_fz (j : Nat) (f : Fs) (e : Ev) : s_fz j f e = (f (fzE j e)) := of_eq_true (eq_self _)
theorem r_x_app (i : Nat) (fa : Fe) (e : Ev) : x_app i fa e = (if isAc e[i]? = true then (match fa e with
  | some (r, e1) => (match imR (frzR r), e1[i]? with
    | some d, some (some (.ac ds)) => if okLen (ds.length + 1) = true then some (.im .none, e1.set i (some (.ac (ds ++ [d])))) else none
    | _, _ => none)
  | none => none) else none) := of_eq_true (eq_self _)
theorem r_x_ext (i : Nat) (fa : Fe) (e : Ev) : x_ext i fa e = (if isAc e[i]? = true then (match fa e with
  | some (.ac es, e1) => (match e1[i]? with
    | some (some (.ac ds)) => if okLen (ds.length + es.length) = true then some (.im .none, e1.set i (some (.ac (ds ++ es)))) else none
    | _ => none)
  | _ => none) else none) := of_eq_true (eq_self _)
theorem r_s_put (i : Nat) (fv fk : Fe) (e : Ev) : s_put i fv fk e = (match fv e with
  | some (r, e1) => if isAc e1[i]? = true then (match imR (frzR r), fk e1 with
    | some d, some (.im (.int k), e2) => (match e2[i]? with
      | some (some (.ac ds)) => (match ixN ds.length k with
        | some j => some (.nx (e2.set i (some (.ac (ds.set j d)))))
        | none => none)
      | _ => none)
    | _, _ => none) else none
  | none => none) := of_eq_true (eq_self _)
theorem r_s_augI (g : Int → Int → Int) (i : Nat) (fk fv : Fe) (e : Ev) : s_augI g i fk fv e = (if isAc e[i]? = true then (match fk e with
  | some (.im (.int k), e1) => (match e1[i]? with
    | some (some (.ac ds)) => (match atI ds k, fv e1 with
      | some (.int a), some (.im (.int b), e2) => (match e2[i]? with
        | some (some (.ac ds2)) => (match ixN ds2.length k with
          | some j => some (.nx (e2.set i (some (.ac (ds2.set j (.int (g a b)))))))
          | none => none)
        | _ => none)
      | _, _ => none)
    | _ => none)
  | _ => none) else none) := of_eq_true (eq_self _)
theorem r_s_aug (g : Int → Int → Int) (i : Nat) (fv : Fe) (e : Ev) : s_aug g i fv e = (match e[i]? with
  | some (some (.im (.int a))) => (match fv e with
    | some (.im (.int b), e1) => if okS [i] e1 = true then some (.nx (e1.set i (some (.im (.int (g a b)))))) else none
    | _ => none)
  | _ => none) := of_eq_true (eq_self _)
theorem r_s_asg (γ : PyData → Ev → Option Ev) (S : List Nat) (f : Fe) (e : Ev) : s_asg γ S f e = (match f e with
  | some (r, e1) => if okS S e1 = true then (match imR (frzR r) with
    | some d => (match γ d e1 with
      | some e2 => some (.nx e2)
      | none => none)
    | none => none) else none
  | none => none) := of_eq_true (eq_self _)
theorem r_x_call (φ : List PyData → Option Rs) (dds : List PyData) (fa : Fa) (e : Ev) : x_call φ dds fa e = (match argsI fa e with
  | some (ds, e1) => (match φ (ds ++ dds) with
    | some (.im d) => some (.im d, e1)
    | some (.ac cs) => some (.ac cs, e1)
    | _ => none)
  | none => none) := of_eq_true (eq_self _)
theorem r_x_callM (φ : List PyData → List PyData → Option (Rs × List PyData)) (dds : List PyData) (fa : Fa) (e : Ev) : x_callM φ dds fa e = (match fa e with
  | some (.br i :: rs, e1) => (match imAll rs, e1[i]? with
    | some ds, some (some (.ac c)) => (match φ c (ds ++ dds) with
      | some (.im d, c') => some (.im d, e1.set i (some (.ac c')))
      | some (.ac cs, c') => some (.ac cs, e1.set i (some (.ac c')))
      | _ => none)
    | _, _ => none)
  | _ => none) := of_eq_true (eq_self _)
theorem r_x_stp (c : Int) (fa : Fe) (fl fh : Fo) (e : Ev) : x_stp c fa fl fh e = (match fa e with
  | some (r, e1) => (match fl e1 with
    | some (lo, e2) => (match fh e2 with
      | some (hi, e3) => (match lookR e3 (frzR r) with
        | some (.list ds) => if okLen (pickD ds lo hi c).length = true then some (.ac (pickD ds lo hi c), e3) else none
        | _ => none)
      | none => none)
    | none => none)
  | none => none) := of_eq_true (eq_self _)
theorem r_i_enum (f : Fe) (e : Ev) : i_enum f e = (match i_seq f e with
  | some (ds, e1) => some (enumD ds, e1)
  | none => none) := of_eq_true (eq_self _)
theorem r_g_rg1 (fa : Fe) (e : Ev) : g_rg1 fa e = (match fa e with
  | some (.im (.int b), e1) => some (0, b, e1)
  | _ => none) := of_eq_true (eq_self _)
theorem r_g_rg2 (fa fb : Fe) (e : Ev) : g_rg2 fa fb e = (match fa e with
  | some (.im (.int a), e1) => (match fb e1 with
    | some (.im (.int b), e2) => some (a, b, e2)
    | _ => none)
  | _ => none) := of_eq_true (eq_self _)
theorem r_x_lrg (f : Fg) (e : Ev) : x_lrg f e = (match f e with
  | some (a, b, e1) => if rgOkB a b = true then some (.ac (rgL a b), e1) else none
  | none => none) := of_eq_true (eq_self _)
theorem r_x_trg (f : Fg) (e : Ev) : x_trg f e = (match f e with
  | some (a, b, e1) => if rgOkB a b = true then some (.im (.tuple (rgL a b)), e1) else none
  | none => none) := of_eq_true (eq_self _)
theorem r_s_retN (e : Ev) : s_retN  e = (some (.rt (.im .none) e)) := of_eq_true (eq_self _)
theorem r_s_setF (i : Nat) (f : Fe) (e : Ev) : s_setF i f e = (match f e with
  | some (r, e1) => if okS [i] e1 = true then (match putA i e1 (frzR r) with
    | some e2 => some (.nx e2)
    | none => none) else none
  | none => none) := by
  unfold s_setF s_set
  cases h : f e with
  | none => simp only [h]
  | some z => simp only [h] <;> rfl
end DL
namespace DL
open PySem PySem.Spec PySem.W PyProof.Rows L2

/-! ### steps of a reckoning -/
section
variable {f g : Fs} {e e1 : Ev} {r : Rs} {o : Option Fl} {x : Fe} {ds : List PyData} {fi : Fi} {γ : PyData → Ev → Option Ev} {S : List Nat} {fb : Fs} {c : Ft} {b : Bool} {n nl : Nat} {r' : Rs}
theorem sq (h : f e = some (.nx e1)) (k : g e1 = o) : s_seq f g e = o := by
  rw [r_s_seq, h]
  exact k
theorem sr (h : f e = some (.rt r e1)) : s_seq f g e = some (.rt r e1) := by
  rw [r_s_seq, h]
theorem ifT (h : c e = some (true, e1)) (k : f e1 = o) : s_if c f g e = o := by
  rw [r_s_if, h]
  exact k
theorem ifF (h : c e = some (false, e1)) (k : g e1 = o) : s_if c f g e = o := by
  rw [r_s_if, h]
  exact k
theorem ifB {b : Bool} (h : c e = some (b, e1)) (k : (if b = true then f e1 else g e1) = o) : s_if c f g e = o := by
  rw [r_s_if, h]
  cases b with
  | true => exact k
  | false => exact k
theorem sf (h : fi e = some (ds, e1)) (k : forGo γ S fb ds e1 = o) : s_for fi γ S fb e = o := by
  rw [r_s_for, h]
  exact k
theorem ret (h : x e = some (r, e1)) : s_ret x e = some (.rt r e1) := by
  rw [r_s_ret, h]
theorem setF {i : Nat} {d : PyData} (h : x e = some (r, e1)) (ok : okS [i] e1 = true) (hr : frzR r = .im d) : s_setF i x e = some (.nx (e1.set i (some (.im d)))) := by
  rw [r_s_setF, h]
  simp only [ok, hr, putA]
  rfl
theorem setX {i : Nat} {e2 : Ev} (h : x e = some (r, e1)) (ok : okS [i] e1 = true) (hr : putA i e1 r = some e2) : s_set i x e = some (.nx e2) := by
  rw [r_s_set, h]
  simp only [ok, hr]
  rfl
theorem drop (h : x e = some (r, e1)) : s_drop x e = some (.nx e1) := by
  rw [r_s_drop, h]
theorem runs (hl : ds.length = n) (h : g (env0 ds nl) = some (.rt r e)) (k : finR r e = some r') : runF n nl g ds = some r' := by
  unfold runF
  rw [if_pos hl, h]
  exact k
theorem runN (hl : ds.length = n) (h : g (env0 ds nl) = some (.nx e)) : runF n nl g ds = some (.im .none) := by
  unfold runF
  rw [if_pos hl, h]
theorem cbT (h : x e = some (.ac ds, e1)) : x_cb c_tuple (a_cons x a_nil) e = some (.im (.tuple ds), e1) := by
  simp [r_x_cb, r_argsD, r_a_cons, r_a_nil, h, lookAll, lookR, frzR, c_tuple]
theorem cbTv {i : Nat} (h : e[i]? = some (some (.ac ds))) : x_cb c_tuple (a_cons (x_var i) a_nil) e = some (.im (.tuple ds), e) := by
  simp [r_x_cb, r_argsD, r_a_cons, r_a_nil, r_x_var, h, lookAll, lookR, frzR, c_tuple]
theorem cbTi {d : PyData} (h : x e = some (.im (.list ds), e1)) : x_cb c_tuple (a_cons x a_nil) e = some (.im (.tuple ds), e1) := by
  simp [r_x_cb, r_argsD, r_a_cons, r_a_nil, h, lookAll, lookR, frzR, c_tuple]
theorem cbA {bs : List Bool} (h : x e = some (.ac (bs.map PyData.bool), e1)) : x_cb c_all (a_cons x a_nil) e = some (.im (.bool (bs.all id)), e1) := by
  simp [r_x_cb, r_argsD, r_a_cons, r_a_nil, h, lookAll, lookR, frzR, c_all, unB_map]
theorem iseqA (h : x e = some (.ac ds, e1)) : i_seq x e = some (ds, e1) := by
  simp [r_i_seq, h, frzR]
theorem iseqL (h : x e = some (.im (.list ds), e1)) : i_seq x e = some (ds, e1) := by
  simp [r_i_seq, h, frzR]
theorem iseqT (h : x e = some (.im (.tuple ds), e1)) : i_seq x e = some (ds, e1) := by
  simp [r_i_seq, h, frzR]
theorem bang (h : x e = some (.im (.bool b), e1)) : t_of x e = some (b, e1) := by
  rw [r_t_of, h]
end
/-! calls -/
theorem callI {φ : List PyData → Option Rs} {dds ds ds' : List PyData} {fa : Fa} {e e1 : Ev} {d : PyData} (ha : argsI fa e = some (ds, e1)) (hd : ds ++ dds = ds') (h : φ ds' = some (.im d)) : x_call φ dds fa e = some (.im d, e1) := by
  rw [r_x_call, ha]
  simp only [hd, h]
theorem callA {φ : List PyData → Option Rs} {dds ds ds' cs : List PyData} {fa : Fa} {e e1 : Ev} (ha : argsI fa e = some (ds, e1)) (hd : ds ++ dds = ds') (h : φ ds' = some (.ac cs)) : x_call φ dds fa e = some (.ac cs, e1) := by
  rw [r_x_call, ha]
  simp only [hd, h]
theorem a0 {e : Ev} : argsI a_nil e = some ([], e) := rfl
theorem aI {f : Fe} {fa : Fa} {e e1 e2 : Ev} {d : PyData} {ds : List PyData} (h : f e = some (.im d, e1)) (k : argsI fa e1 = some (ds, e2)) : argsI (a_cons f fa) e = some (d :: ds, e2) := by
  rw [r_argsI] at k ⊢
  rw [r_a_cons, h]
  cases z : fa e1 with
  | none => rw [z] at k; cases k
  | some p =>
    obtain ⟨rs, e3⟩ := p
    rw [z] at k
    cases y : imAll rs with
    | none => simp only [y] at k; cases k
    | some es =>
      simp only [y, Option.some.injEq, Prod.mk.injEq] at k
      obtain ⟨rfl, rfl⟩ := k
      simp only [z, imAll, frzR, imR, y]
theorem aA {f : Fe} {fa : Fa} {e e1 e2 : Ev} {cs : List PyData} {ds : List PyData} (h : f e = some (.ac cs, e1)) (k : argsI fa e1 = some (ds, e2)) : argsI (a_cons f fa) e = some (.list cs :: ds, e2) := by
  rw [r_argsI] at k ⊢
  rw [r_a_cons, h]
  cases z : fa e1 with
  | none => rw [z] at k; cases k
  | some p =>
    obtain ⟨rs, e3⟩ := p
    rw [z] at k
    cases y : imAll rs with
    | none => simp only [y] at k; cases k
    | some es =>
      simp only [y, Option.some.injEq, Prod.mk.injEq] at k
      obtain ⟨rfl, rfl⟩ := k
      simp only [z, imAll, frzR, imR, y]
theorem vI {i : Nat} {e : Ev} {d : PyData} (h : e[i]? = some (some (.im d))) : x_var i e = some (.im d, e) := by
  rw [r_x_var, h]
theorem cI {d : PyData} {e : Ev} : x_c d e = some (.im d, e) := rfl
theorem binI {φ : PyData → PyData → Option Rs} {f g : Fe} {e e1 e2 : Ev} {a b : PyData} {r : Rs} (h1 : f e = some (.im a, e1)) (h2 : g e1 = some (.im b, e2)) (h : φ a b = some r) : x_bin φ f g e = some (r, e2) := by
  rw [r_x_bin, r_two, h1]
  simp only [h2, look2, lookR, frzR, h]
theorem binA {φ : PyData → PyData → Option Rs} {f g : Fe} {e e1 e2 : Ev} {a : PyData} {cs : List PyData} {r : Rs} (h1 : f e = some (.im a, e1)) (h2 : g e1 = some (.ac cs, e2)) (h : φ a (.list cs) = some r) : x_bin φ f g e = some (r, e2) := by
  rw [r_x_bin, r_two, h1]
  simp only [h2, look2, lookR, frzR, h]
theorem binAA {φ : PyData → PyData → Option Rs} {f g : Fe} {e e1 e2 : Ev} {as cs : List PyData} {r : Rs} (h1 : f e = some (.ac as, e1)) (h2 : g e1 = some (.ac cs, e2)) (h : φ (.list as) (.list cs) = some r) : x_bin φ f g e = some (r, e2) := by
  rw [r_x_bin, r_two, h1]
  simp only [h2, look2, lookR, frzR, h]
theorem binAI {φ : PyData → PyData → Option Rs} {f g : Fe} {e e1 e2 : Ev} {as : List PyData} {b : PyData} {r : Rs} (h1 : f e = some (.ac as, e1)) (h2 : g e1 = some (.im b, e2)) (h : φ (.list as) b = some r) : x_bin φ f g e = some (r, e2) := by
  rw [r_x_bin, r_two, h1]
  simp only [h2, look2, lookR, frzR, h]
theorem andT {f g : Fe} {e e1 : Ev} {o : Option (Rs × Ev)} (h : f e = some (.im (.bool true), e1)) (k : g e1 = o) : x_and f g e = o := by
  rw [r_x_and, h]
  exact k
theorem andF {f g : Fe} {e e1 : Ev} (h : f e = some (.im (.bool false), e1)) : x_and f g e = some (.im (.bool false), e1) := by
  rw [r_x_and, h]
theorem tandT {f g : Ft} {e e1 : Ev} {o : Option (Bool × Ev)} (h : f e = some (true, e1)) (k : g e1 = o) : t_and f g e = o := by
  rw [r_t_and, h]
  exact k
theorem tandF {f g : Ft} {e e1 : Ev} (h : f e = some (false, e1)) : t_and f g e = some (false, e1) := by
  rw [r_t_and, h]
theorem torT {f g : Ft} {e e1 : Ev} (h : f e = some (true, e1)) : t_or f g e = some (true, e1) := by
  rw [r_t_or, h]
theorem torF {f g : Ft} {e e1 : Ev} {o : Option (Bool × Ev)} (h : f e = some (false, e1)) (k : g e1 = o) : t_or f g e = o := by
  rw [r_t_or, h]
  exact k
theorem tnot {f : Ft} {e e1 : Ev} {b : Bool} (h : f e = some (b, e1)) : t_not f e = some (!b, e1) := by
  rw [r_t_not, h]
/-! ### loops that look for something -/
theorem forGo_some {α : Type} {γ : PyData → Ev → Option Ev} {S : List Nat} {fb : Fs} (J : Ev → Prop) (f : α → PyData) (g : α → Option Rs) : ∀ (l : List α) (e : Ev), J e →
    (∀ a ∈ l, ∀ e, J e → okS S e = true ∧ ∃ e2, γ (f a) e = some e2 ∧ ((∃ r e3, g a = some r ∧ fb e2 = some (.rt r e3)) ∨ (g a = none ∧ ∃ e3, fb e2 = some (.nx e3) ∧ J e3))) →
    (∃ r e3, l.findSome? g = some r ∧ forGo γ S fb (l.map f) e = some (.rt r e3)) ∨ (l.findSome? g = none ∧ ∃ e3, forGo γ S fb (l.map f) e = some (.nx e3) ∧ J e3)
  | [], e, h0, _ => .inr ⟨rfl, e, rfl, h0⟩
  | a :: l, e, h0, h => by
    obtain ⟨h1, e2, h2, h3⟩ := h a List.mem_cons_self e h0
    rw [List.map_cons, List.findSome?_cons]
    simp only [forGo, h1, h2, if_true]
    rcases h3 with ⟨r, e3, h4, h5⟩ | ⟨h4, e3, h5, h6⟩
    · exact .inl ⟨r, e3, by rw [h4], by rw [h5]⟩
    · rw [h4, h5]
      exact forGo_some J f g l e3 h6 fun x m => h x (List.mem_cons_of_mem _ m)
/-- no early end -/
theorem forGo_inv {α : Type} {γ : PyData → Ev → Option Ev} {S : List Nat} {fb : Fs} (f : α → PyData) : ∀ (l : List α) (J : List α → Ev → Prop) (e : Ev), J [] e →
    (∀ (pre : List α) (a : α) (post : List α), l = pre ++ a :: post → ∀ e, J pre e → okS S e = true ∧ ∃ e2 e3, γ (f a) e = some e2 ∧ (fb e2 = some (.nx e3) ∨ fb e2 = some (.ct e3)) ∧ J (pre ++ [a]) e3) →
    ∃ e3, forGo γ S fb (l.map f) e = some (.nx e3) ∧ J l e3
  | [], J, e, h0, _ => ⟨e, rfl, h0⟩
  | a :: l, J, e, h0, h => by
    obtain ⟨h1, e2, e3, h2, h3, h4⟩ := h [] a l rfl e h0
    obtain ⟨e4, h5, h6⟩ := forGo_inv f l (fun pre e => J (a :: pre) e) e3 h4 fun pre x post hl e hj => by
      have := h (a :: pre) x post (by rw [hl]; rfl) e hj
      exact this
    refine ⟨e4, ?_, h6⟩
    rw [List.map_cons]
    simp only [forGo, h1, h2, if_true]
    rcases h3 with h3 | h3
    · rw [h3]
      exact h5
    · rw [h3]
      exact h5
theorem findSome_congr {α β : Type} {g g' : α → Option β} : ∀ {l : List α}, (∀ a ∈ l, g a = g' a) → l.findSome? g = l.findSome? g'
  | [], _ => rfl
  | a :: l, h => by
    rw [List.findSome?_cons, List.findSome?_cons, h a List.mem_cons_self, findSome_congr fun x m => h x (List.mem_cons_of_mem _ m)]
theorem rngD1 (m : Nat) : rngD 1 m 1 = (List.range m).map fun k => nD (k + 1) := by
  unfold rngD
  refine List.map_congr_left fun k _ => ?_
  unfold nD
  congr 1
  omega
theorem rngD0 (m : Nat) : rngD 0 m 1 = (List.range m).map nD := by
  unfold rngD
  refine List.map_congr_left fun k _ => ?_
  unfold nD
  congr 1
  omega
theorem i_rng2_at {fa fb : Fe} {e e1 e2 : Ev} {m : Nat} (h1 : fa e = some (.im (.int 1), e1)) (h2 : fb e1 = some (.im (.int ((m : Int) + 1)), e2)) (hm : m ≤ 1000000) : i_rng2 fa fb e = some ((List.range m).map fun k => nD (k + 1), e2) := by
  rw [r_i_rng2, h1]
  simp only [h2]
  have c : (rgC 1 && rgC ((m : Int) + 1)) = true := by
    rw [Bool.and_eq_true]
    exact ⟨by decide, decide_eq_true (by omega)⟩
  rw [if_pos c, show ((m : Int) + 1 - 1).toNat = m by omega, rngD1]
theorem i_rng1_at {fa : Fe} {e e1 : Ev} {m : Nat} (h1 : fa e = some (.im (.int (m : Int)), e1)) (hm : m ≤ 1000000) : i_rng1 fa e = some ((List.range m).map nD, e1) := by
  rw [r_i_rng1, h1]
  have c : rgC (m : Int) = true := decide_eq_true (by omega)
  simp only [c, if_true]
  rw [show (m : Int).toNat = m by omega, rngD0]
end DL
/-! calls with keywords -/
namespace DL
open PySem PySem.Spec PyProof.Rows L2
/-- the values in the order of the parameters -/
def perm {α : Type} (π : List Nat) (xs : List α) : List α := π.filterMap fun i => xs[i]?
theorem vals_get : ∀ {vs : List V} {us : List Value} (i : Nat), Vals vs us → (∃ v u, vs[i]? = some v ∧ us[i]? = some u ∧ RelV v u) ∨ (vs[i]? = none ∧ us[i]? = none)
  | _, _, _, .nil => .inr ⟨rfl, rfl⟩
  | _, _, 0, .cons h _ => .inl ⟨_, _, rfl, rfl, h⟩
  | _, _, i + 1, .cons _ t => by simpa using vals_get i t
theorem vals_perm {vs : List V} {us : List Value} (h : Vals vs us) : ∀ π : List Nat, Vals (perm π vs) (perm π us)
  | [] => .nil
  | i :: π => by
    unfold perm
    rcases vals_get i h with ⟨v, u, h1, h2, h3⟩ | ⟨h1, h2⟩
    · rw [List.filterMap_cons_some h1, List.filterMap_cons_some h2]
      exact .cons h3 (vals_perm h π)
    · rw [List.filterMap_cons_none h1, List.filterMap_cons_none h2]
      exact vals_perm h π
theorem vals_app : ∀ {vs zs : List V} {us ws : List Value}, Vals vs us → Vals zs ws → Vals (vs ++ zs) (us ++ ws)
  | _, _, _, _, .nil, q => q
  | _, _, _, _, .cons h t, q => .cons h (vals_app t q)
theorem dpAll_perm {K : PySem.W.Frag} {G : Hp} {vs : List V} {ds : List PyData} (h : DpAll K G vs ds) : ∀ π : List Nat, DpAll K G (perm π vs) (perm π ds)
  | [] => .nil
  | i :: π => by
    unfold perm
    cases h1 : ds[i]? with
    | some d =>
      obtain ⟨v, h2, h3⟩ := dpAll_get h h1
      rw [List.filterMap_cons_some h1, List.filterMap_cons_some h2]
      exact .cons h3 (dpAll_perm h π)
    | none =>
      have h2 : vs[i]? = none := by
        rw [List.getElem?_eq_none_iff] at h1 ⊢
        rw [dpAll_len h]
        exact h1
      rw [List.filterMap_cons_none h1, List.filterMap_cons_none h2]
      exact dpAll_perm h π
/-- a def that is called with n values by place and the keywords ks -/
structure KfK (P : Program) (w : World) (K : PySem.W.Frag) (mg : Str → Option Value) (base : Heap) (k : Nat) (x : Str) (sp : Sp) (n : Nat) (ks : List Str) (π : List Nat) : Prop where
  ex : ∃ (f : Addr) (fd : FuncData) (ps : List Str), FnOk P w K mg base CX0 k f fd ps sp ∧ mg x = some (.ref f) ∧ PySem.W.keepIn K (.ref f) = true ∧ KBn K fd ps n ks (fun us ws => perm π (us ++ ws)) (fun vs zs => perm π (vs ++ zs))
theorem kbn_of {K : PySem.W.Frag} {x qual : Str} {params : Arguments} {body : List Stmt} {scope : Scope} {kws : List (Str × V)} {f : Addr} {fd : FuncData} {ps : List Str} (F : FunD K x qual params body scope [] kws f fd) (n : Nat) (ks : List Str) (π : List Nat)
    (h : ∀ (kV doc pm : Value) (an : Option Addr) (cdv ct : Value) (us ws : List Value), us.length = n → ws.length = ks.length → bindArgs (PySem.W.fnOf x qual params body scope .none kV doc pm an cdv ct) ⟨us, ks.zip ws⟩ = pure (ps.zip (perm π (us ++ ws)))) :
    KBn K fd ps n ks (fun us ws => perm π (us ++ ws)) (fun vs zs => perm π (vs ++ zs)) := by
  obtain ⟨_, _, _, kv, dc, md, an, cd, cl, _, same, _, _, noDefaults, _⟩ := F.ex
  subst same
  cases noDefaults with
  | inr some_ => exact absurd rfl some_.1
  | inl none_ =>
    obtain ⟨_, rfl⟩ := none_
    exact ⟨fun _ us ws _ n1 n2 => .of_eq (h kv dc md an cd cl us ws n1 n2), fun r1 r2 => vals_perm (vals_app r1 r2) π⟩
structure KD (X : Cx) (kws : List Keyword) (f : Fa) : Prop where
  ex : ∃ t : TA, PK X kws t ∧ ∀ (m : Option Addr) (E : Ef) (G0 G : Hp) (e : Ev) (σ : St) (H : Hp) (rs : List Rs) (e' : Ev) (Q : List V → Hp → Prop),
    Rl X.K m E G0 G e σ H → f e = some (rs, e') → (∀ vs G' H', Rl X.K m E G0 G' e' σ H' → Stp σ G H e G' H' e' → VrAll X.K E G' H' σ e' vs rs → Q vs H') → t σ H Q
section
variable {X : Cx} {a : Expr} {kws : List Keyword} {fa : Fe} {fr : Fa} {nm : Option Str} {kpos : Pos}
theorem kd_nil : KD X [] a_nil := ⟨_, pk_nil, fun m E G0 G e σ H rs e' Q R q P => by
  cases q
  exact P [] G H R Stp.refl True.intro⟩
theorem kd_cons (ha : ED X a fa) (hr : KD X kws fr) : KD X (⟨nm, a, kpos⟩ :: kws) (a_cons fa fr) := by
  obtain ⟨t, p, k⟩ := ha
  obtain ⟨t2, p2, k2⟩ := hr
  refine ⟨_, pk_cons p p2, fun m E G0 G e σ H rs e' Q R q P => ?_⟩
  unfold a_cons at q
  cases h1 : fa e with
  | none => simp only [h1] at q; cases q
  | some z =>
    obtain ⟨r, e1⟩ := z
    simp only [h1] at q
    cases h2 : fr e1 with
    | none => simp only [h2] at q; cases q
    | some z2 =>
      obtain ⟨rs2, e2⟩ := z2
      simp only [h2, Option.some.injEq, Prod.mk.injEq] at q
      obtain ⟨rfl, rfl⟩ := q
      refine k m E G0 G e σ H r e1 _ R h1 fun v G1 H1 R1 S1 V1 N1 => ?_
      obtain ⟨G1', R1', S1', s1, V1'⟩ := R1.freeze S1 V1 N1
      refine k2 m E G0 G1' e1 σ H1 rs2 e2 _ R1' h2 fun vs G2 H2 R2 S2 V2 => ?_
      exact P (v :: vs) G2 H2 R2 (S1'.trans S2) ⟨V1'.stp S2, V2⟩
end
def x_callK (φ : List PyData → Option Rs) (π : List Nat) (fa fk : Fa) : Fe := fun e => match argsI fa e with
  | some (ds, e1) => (match argsI fk e1 with
    | some (zs, e2) => (match φ (perm π (ds ++ zs)) with
      | some (.im d) => some (.im d, e2)
      | some (.ac cs) => some (.ac cs, e2)
      | _ => none)
    | none => none)
  | none => none
section
variable {X : Cx} {a : Expr} {es : List Expr} {kws : List Keyword} {fa fk : Fa} {p pos : Pos} {x : Str} {j k n m : Nat} {ks : List Str} {π : List Nat}
theorem vrAll_len {K : PySem.W.Frag} {E : Ef} {G H : Hp} {σ : St} {e : Ev} : ∀ {vs : List V} {rs : List Rs}, VrAll K E G H σ e vs rs → vs.length = rs.length
  | [], [], _ => rfl
  | _ :: _, _ :: _, h => congrArg (· + 1) (vrAll_len h.2)
  | [], _ :: _, h => h.elim
  | _ :: _, [], h => h.elim
theorem callK_ok {φ : List PyData → Option Rs} {t tk : TA} (hn : ∀ ds, (φ ds).isSome = true → ds.length = n)
    (kk : ∀ (m : Option Addr) (E : Ef) (G0 G : Hp) (e : Ev) (σ : St) (H : Hp) (rs : List Rs) (e' : Ev) (Q : List V → Hp → Prop),
    Rl X.K m E G0 G e σ H → fa e = some (rs, e') → (∀ vs G' H', Rl X.K m E G0 G' e' σ H' → Stp σ G H e G' H' e' → VrAll X.K E G' H' σ e' vs rs → Q vs H') → t σ H Q)
    (kz : ∀ (m : Option Addr) (E : Ef) (G0 G : Hp) (e : Ev) (σ : St) (H : Hp) (rs : List Rs) (e' : Ev) (Q : List V → Hp → Prop),
    Rl X.K m E G0 G e σ H → fk e = some (rs, e') → (∀ vs G' H', Rl X.K m E G0 G' e' σ H' → Stp σ G H e G' H' e' → VrAll X.K E G' H' σ e' vs rs → Q vs H') → tk σ H Q)
    (l1 : ∀ {e e' : Ev} {rs : List Rs}, fa e = some (rs, e') → rs.length = j) (l2 : ∀ {e e' : Ev} {rs : List Rs}, fk e = some (rs, e') → rs.length = k)
    (m : Option Addr) (E : Ef) (G0 G : Hp) (e : Ev) (σ : St) (H : Hp) (rr : Rs) (e' : Ev) (Q : VK) (R : Rl X.K m E G0 G e σ H) (q : x_callK φ π fa fk e = some (rr, e')) (P : Po X.K m E G0 σ G H e rr e' Q) :
    tCallN j k (spD X.K n φ) (fun vs zs => perm π (vs ++ zs)) E0 t tk σ H Q := by
  unfold x_callK at q
  cases h1 : argsI fa e with
  | none => simp only [h1] at q; cases q
  | some z =>
    obtain ⟨ds, e1⟩ := z
    simp only [h1] at q
    obtain ⟨rs, q1, q2⟩ := argsI_ok h1
    cases h3 : argsI fk e1 with
    | none => simp only [h3] at q; cases q
    | some z2 =>
      obtain ⟨zs, e2⟩ := z2
      simp only [h3] at q
      obtain ⟨rs2, q3, q4⟩ := argsI_ok h3
      have main : ∀ r, φ (perm π (ds ++ zs)) = some r → r = rr ∧ e2 = e' → tCallN j k (spD X.K n φ) (fun vs zs => perm π (vs ++ zs)) E0 t tk σ H Q := fun r h2 ⟨z1, z2⟩ => by
        subst z1 z2
        refine kk m E G0 G e σ H rs e1 _ R q1 fun vs G1 H1 R1 S1 V1 => ?_
        refine kz m E G0 G1 e1 σ H1 rs2 e2 _ R1 q3 fun ws G2 H2 R2 S2 V2 => ?_
        have D1 := vr_imAll V1 q2
        have D2 := vr_imAll V2 q4
        have D3 := dpAll_perm (dpAll_app (dpAll_same S2.gg D1) D2) π
        refine ⟨(vrAll_len V1).trans (l1 q1), (vrAll_len V2).trans (l2 q3), G2, perm π (ds ++ zs), r, R2.gh, D3, ?_, h2, fun v G' H' s1 s2 s3 nw vr => ?_⟩
        · rw [dpAll_len D3]
          exact hn _ (by rw [h2]; rfl)
        · obtain ⟨R3, S3⟩ := R2.called s1 s2 s3 nw
          obtain ⟨V3, N3⟩ := R2.vrf vr
          have S12 := S1.trans S2
          exact P v G' H' R3 (S12.trans S3) V3 (nw_back S12 v N3)
      cases h2 : φ (perm π (ds ++ zs)) with
      | none => simp only [h2] at q; cases q
      | some r =>
        cases r with
        | im d =>
          simp only [h2, Option.some.injEq, Prod.mk.injEq] at q
          exact main _ h2 q
        | ac d =>
          simp only [h2, Option.some.injEq, Prod.mk.injEq] at q
          exact main _ h2 q
        | br d => simp only [h2] at q; cases q
theorem pe_callN0 {CX : CXT} {f : Addr} {fd : FuncData} {ps : List Str} {sp : Sp} {E : XK} {tk : TA} {g : List Value → List Value → List Value} {gV : List V → List V → List V} (F : FnOk X.prog X.w X.K X.mg X.base CX k f fd ps sp) (hr : Room k X.A) (hg : Gl X x) (hm : X.mg x = some (.ref f))
    (hk : PySem.W.keepIn X.K (.ref f) = true) (hb : KBn X.K fd ps 0 ks g gV) (hx : Passes CX X E) (hkw : PK X kws tk)
    (hall : (backToKw pos (keywordEach kws X.env)).all (·.1.isSome) = true) (hks : (backToKw pos (keywordEach kws X.env)).filterMap (·.1) = ks)
    (hpl : ((backTo pos (starEach [] X.env)).any (·.1) || (backToKw pos (keywordEach kws X.env)).any (·.1.isNone)) = false) (hdb : (x == ("__debug__" : Str)) = false) :
    PE X (.Call (.Name x p) [] kws pos) (tCallN 0 ks.length sp gV E tNil tk) :=
  ⟨fun pins s σ H Q I h => wpAny_Call_Name_kw (ld_glob I hg hm (PySem.W.callWith_KW0 (h₀ := X.base) I.ok.mod.kin hk hall (thn (hkw.run pos pins s σ H _ I h) fun ws s' ⟨zs, H', I', rz, len0, lenK, q⟩ =>
    ⟨I'.kIn, hks.symm ▸ run_fnN F hr hb hx I' .nil rz len0 lenK q⟩) hpl) hdb)⟩
theorem ed_callK0 {φ : List PyData → Option Rs} (F : KfK X.prog X.w X.K X.mg X.base k x (spD X.K n φ) 0 ks π) (hr : Room j X.A) (hk : k ≤ j) (hn : ∀ ds, (φ ds).isSome = true → ds.length = n) (h : KD X kws fk)
    (l2 : ∀ {e e' : Ev} {rs : List Rs}, fk e = some (rs, e') → rs.length = ks.length) (hg : Gl X x := by rfl)
    (hall : (backToKw pos (keywordEach kws X.env)).all (·.1.isSome) = true := by rfl) (hks : (backToKw pos (keywordEach kws X.env)).filterMap (·.1) = ks := by rfl)
    (hpl : ((backTo pos (starEach [] X.env)).any (·.1) || (backToKw pos (keywordEach kws X.env)).any (·.1.isNone)) = false := by rfl) (hdb : (x == ("__debug__" : Str)) = false := by decide) :
    ED X (.Call (.Name x p) [] kws pos) (x_callK φ π a_nil fk) := by
  obtain ⟨f, fd, ps, F, hm, kp, hb⟩ := F.ex
  obtain ⟨t, pk, kz⟩ := h
  refine ⟨_, pe_callN0 F (hr.mono hk) hg hm kp hb (E := E0) (fun _ _ _ _ _ _ _ z => z.elim) pk hall hks hpl hdb, callK_ok hn (fun m E G0 G e σ H rs e' Q R q P => ?_) kz (fun q => ?_) l2⟩
  · cases q
    exact P [] G H R Stp.refl True.intro
  · cases q
    rfl
theorem ed_callK {φ : List PyData → Option Rs} (F : KfK X.prog X.w X.K X.mg X.base k x (spD X.K n φ) m ks π) (hr : Room j X.A) (hk : k ≤ j) (hn : ∀ ds, (φ ds).isSome = true → ds.length = n) (ha : AD X (a :: es) fa) (h : KD X kws fk)
    (l1 : ∀ {e e' : Ev} {rs : List Rs}, fa e = some (rs, e') → rs.length = m) (l2 : ∀ {e e' : Ev} {rs : List Rs}, fk e = some (rs, e') → rs.length = ks.length) (hg : Gl X x := by rfl)
    (hks : (backToKw pos (keywordEach kws X.env)).filterMap (·.1) = ks := by rfl) (hall : (backToKw pos (keywordEach kws X.env)).all (·.1.isSome) = true := by rfl) (hdb : (x == ("__debug__" : Str)) = false := by decide)
    (he : starEach (a :: es) X.env = (false, eval a X.env) :: starEach es X.env := by rfl)
    (hpl : ((backTo pos (starEach (a :: es) X.env)).any (·.1) || (backToKw pos (keywordEach kws X.env)).any (·.1.isNone)) = false := by rfl) :
    ED X (.Call (.Name x p) (a :: es) kws pos) (x_callK φ π fa fk) := by
  obtain ⟨f, fd, ps, F, hm, kp, hb⟩ := F.ex
  obtain ⟨t, pa, kk⟩ := ha
  obtain ⟨t2, pk, kz⟩ := h
  exact ⟨_, pe_callN F (hr.mono hk) hg hm kp hb (E := E0) (fun _ _ _ _ _ _ _ z => z.elim) pa pk hall hks hdb he hpl, callK_ok hn kk kz l1 l2⟩
theorem len_nil {e e' : Ev} {rs : List Rs} (q : a_nil e = some (rs, e')) : rs.length = 0 := by
  cases q
  rfl
theorem len_cons {fe : Fe} {fr : Fa} {n : Nat} (h : ∀ {e e' : Ev} {rs : List Rs}, fr e = some (rs, e') → rs.length = n) {e e' : Ev} {rs : List Rs} (q : a_cons fe fr e = some (rs, e')) : rs.length = n + 1 := by
  unfold a_cons at q
  split at q
  · split at q
    · rename_i z
      cases q
      exact congrArg (· + 1) (h z)
    · cases q
  · cases q
end
end DL
/-! a def that calls itself -/
namespace DL
open PySem PySem.Spec PyProof.Rows L2
theorem spD_void {K : PySem.W.Frag} {n : Nat} {vs : List V} {H : Hp} {Q : VK} {E : XK} (h : spD K n (fun _ => none) vs H Q E) : False := by
  obtain ⟨_, _, _, _, _, _, h, _⟩ := h
  cases h
theorem fn_void {P : Program} {w : World} {K : PySem.W.Frag} {mg : Str → Option Value} {base : Heap} {CX : CXT} {k n : Nat} {f : Addr} {fd : FuncData} {ps : List Str} : FnOk P w K mg base CX k f fd ps (spD K n (fun _ => none)) :=
  ⟨fun _ _ _ _ h => (spD_void h).elim, by
    intros
    exact (spD_void (by assumption)).elim⟩
end DL
namespace DL
open L2 PySem PySem.Spec PySem.W PyProof.Rows

/-! ### a list of one's own lists: the relation's moves -/
def isNl : Option (Option Sl) → Bool
  | some (some (.nl _)) => true
  | _ => false
theorem isNl_iff {o : Option (Option Sl)} (h : isNl o = true) : ∃ dss, o = some (some (.nl dss)) := by
  match o, h with
  | some (some (.nl dss)), _ => exact ⟨dss, rfl⟩
/-- no other slot is such a list -/
def oneNl (i : Nat) (e : Ev) : Bool := (List.range e.length).all fun j => j == i || !isNl e[j]?
theorem oneNl_at {i : Nat} {e : Ev} (h : oneNl i e = true) {j : Nat} {dss : List (Bool × List PyData)} (z : e[j]? = some (some (.nl dss))) : j = i := by
  have hl : j < e.length := (List.getElem?_eq_some_iff.mp z).1
  have q := List.all_eq_true.mp h j (List.mem_range.mpr hl)
  rw [z] at q
  simpa [isNl] using q
section
variable {K : PySem.W.Frag} {m : Option Addr} {E : Ef} {G0 G H H1 H2 : Hp} {e : Ev} {σ : St} {i : Nat} {p q : Addr}
/-- the frame, an object exchanged -/
def Ef.put (E : Ef) (q : Addr) (hb : E.b q = none) (o : Option HO) : Ef := ⟨fun a => if a = q then o else E.h a, E.b, fun a u z => by
  have n : a ≠ q := ne_of_none z hb
  rw [if_neg n]
  exact E.sub a u z⟩
theorem Ef.put_at {hb : E.b q = none} {o : Option HO} : (E.put q hb o).h q = o := if_pos rfl
theorem Ef.put_ne {hb : E.b q = none} {o : Option HO} {a : Addr} (n : a ≠ q) : (E.put q hb o).h a = E.h a := if_neg n
/-- the frame, new objects beside it -/
noncomputable def Ef.add (E : Ef) (H2 : Hp) (N : Addr → Prop) [DecidablePred N] (hn : ∀ a, N a → E.b a = none) : Ef := ⟨fun a => if N a then H2 a else E.h a, E.b, fun a u z => by
  have n : ¬ N a := fun y => by rw [hn a y] at z; cases z
  rw [if_neg n]
  exact E.sub a u z⟩
theorem Rl.add {N : Addr → Prop} [DecidablePred N] {hn : ∀ a, N a → E.b a = none} (R : Rl K m E G0 G e σ H1) (s : Same H1 H2) (new : ∀ a, N a → H1 a = none) : Rl K m (E.add H2 N hn) G0 G e σ H2 := by
  have old : ∀ {a : Addr}, H1 a ≠ none → ¬ N a := fun {a} z y => z (new a y)
  have inE : ∀ {a : Addr} {o : HO}, E.h a = some o → ¬ N a := fun {a o} z => by
    by_cases y : m = some a
    · exact old (R.mh a y).2
    · exact old (by rw [R.eh a o z y]; simp)
  have at_ : ∀ {a : Addr}, ¬ N a → (E.add H2 N hn).h a = E.h a := fun {a} n => if_neg n
  refine ⟨R.gg, R.gh.trans s, fun a o z1 z2 => ?_, fun a z => ?_, fun a z1 z2 => ?_, R.len, R.im, fun j ds z => ?_, R.inj, fun j dss z => ?_⟩
  · by_cases y : N a
    · rw [show (E.add H2 N hn).h a = H2 a from if_pos y] at z1
      exact z1
    · rw [at_ y] at z1
      exact s a o (R.eh a o z1 z2)
  · have h2 := (R.mh a z).2
    have n := old h2
    refine ⟨?_, fun y => ?_⟩
    · rw [at_ n]
      exact (R.mh a z).1
    · cases w : H1 a with
      | none => exact h2 w
      | some o => rw [s a o w] at y; cases y
  · by_cases y : N a
    · exact R.gh.free (new a y)
    · rw [at_ y] at z2
      exact R.nw a z1 z2
  · obtain ⟨p, ws, a1, a2, a3, a4, a5⟩ := R.ac j ds z
    have n : ¬ N p := old (by rw [a3]; simp)
    refine ⟨p, ws, a1, a2, s p _ a3, a4, ?_⟩
    rcases a5 with a5 | a5
    · left
      rw [at_ n]
      exact a5
    · exact .inr a5
  · obtain ⟨p, qs, h1, h2, h3, h4, h5, h6, h7, h8⟩ := R.nl j dss z
    refine ⟨p, qs, h1, by rw [at_ (inE h2)]; exact h2, h3, h4, h5, h6, h7, fun k b ds q a1 a2 => ?_⟩
    have y := h8 k b ds q a1 a2
    cases b with
    | true => exact y
    | false =>
      obtain ⟨b1, b2, b3, ws, b4, b5⟩ := y
      exact ⟨b1, b2, b3, ws, by rw [at_ (inE b4)]; exact b4, b5⟩
/-- a slot becomes such a list -/
theorem Rl.setN {dss : List (Bool × List PyData)} (R : Rl K m E G0 G e σ H) (h : NlF K m E G0 G (some (some (.ref p))) dss) : Rl K m E G0 G (e.set i (some (.nl dss))) (σ.set i (some (.ref p))) H := by
  have hl := R.len
  have keep : ∀ {j : Nat} {s : Sl}, (e.set i (some (.nl dss)))[j]? = some (some s) → (∀ d, s ≠ .nl d) → e[j]? = some (some s) ∧ (σ.set i (some (V.ref p)))[j]? = σ[j]? := fun {j s} z ns => by
    rw [set_get] at z ⊢
    by_cases y : i = j ∧ j < e.length
    · rw [if_pos y] at z
      cases z
      exact absurd rfl (ns dss)
    · rw [if_neg y] at z
      exact ⟨z, if_neg (by omega)⟩
  refine ⟨R.gg, R.gh, R.eh, R.mh, R.nw, by rw [List.length_set, List.length_set]; exact hl, fun j d z => ?_, fun j ds z => ?_, fun j k dj dk q1 z1 z2 z3 z4 => ?_, fun j ds z => ?_⟩
  · obtain ⟨a1, a2⟩ := keep z fun _ y => by cases y
    rw [a2]
    exact R.im j d a1
  · obtain ⟨a1, a2⟩ := keep z fun _ y => by cases y
    rw [a2]
    exact R.ac j ds a1
  · obtain ⟨a1, a2⟩ := keep z1 fun _ y => by cases y
    obtain ⟨b1, b2⟩ := keep z2 fun _ y => by cases y
    rw [a2] at z3
    rw [b2] at z4
    exact R.inj j k dj dk q1 a1 b1 z3 z4
  · rw [set_get] at z ⊢
    by_cases y : i = j ∧ j < e.length
    · rw [if_pos y] at z
      cases z
      rw [if_pos ⟨y.1, by omega⟩]
      exact h
    · rw [if_neg y] at z
      rw [if_neg (by omega)]
      exact R.nl j ds z
theorem set_self {α : Type} {l : List α} {i : Nat} {x : α} (h : l[i]? = some x) : l.set i x = l := by
  refine List.ext_getElem? fun j => ?_
  rw [set_get]
  by_cases z : i = j ∧ j < l.length
  · rw [if_pos z, ← z.1, h]
  · rw [if_neg z]
/-- an inner list is written -/
theorem Rl.putN {dss : List (Bool × List PyData)} {j : Nat} {ds ds' : List PyData} {ws : List V} (R : Rl K m E G0 G e σ H) (h : e[i]? = some (some (.nl dss))) (one : oneNl i e = true) (hj : dss[j]? = some (false, ds)) (hd : DpAll K G ws ds') :
    ∃ (q : Addr) (ws0 : List V), (∃ (p : Addr) (qs : List Addr), σ[i]? = some (some (.ref p)) ∧ E.h p = some (.lst (qs.map V.ref)) ∧ qs[j]? = some q) ∧ H q = some (.lst ws0) ∧ DpAll K G ws0 ds ∧ ∃ E' : Ef, E'.b = E.b ∧ Rl K m E' G0 G (e.set i (some (.nl (dss.set j (false, ds'))))) σ (upd H q (.lst ws)) := by
  obtain ⟨p, qs, h1, h2, h3, h4, h5, h6, h7, h8⟩ := R.nl i dss h
  have jl : j < dss.length := (List.getElem?_eq_some_iff.mp hj).1
  obtain ⟨q, hq⟩ : ∃ q, qs[j]? = some q := ⟨qs[j]'(by omega), List.getElem?_eq_getElem _⟩
  obtain ⟨b1, b2, b3, ws0, b4, b5⟩ := h8 j false ds q hj hq
  have hqm : q ∈ qs := List.mem_of_getElem? hq
  have pq : p ≠ q := fun y => (List.nodup_cons.mp h7).1 (by rw [y]; exact hqm)
  have gq : G q = none := R.nw q b2 (by rw [b4]; simp)
  have hH := R.eh q _ b4 b3
  refine ⟨q, ws0, ⟨p, qs, h1, h2, hq⟩, hH, b5, E.put q b1 (some (.lst ws)), rfl, ?_⟩
  have keep : ∀ {k : Nat} {s : Sl}, (e.set i (some (.nl (dss.set j (false, ds')))))[k]? = some (some s) → (∀ d, s ≠ .nl d) → e[k]? = some (some s) := fun {k s} z ns => by
    rw [set_get] at z
    by_cases y : i = k ∧ k < e.length
    · rw [if_pos y] at z
      cases z
      exact absurd rfl (ns _)
    · rw [if_neg y] at z
      exact z
  refine ⟨R.gg, fun a o z => ?_, fun a o z1 z2 => ?_, fun a z => ?_, fun a z1 z2 => ?_, by rw [List.length_set]; exact R.len, fun k d z => R.im k d (keep z fun _ y => by cases y), fun k d z => ?_, fun k l dk dl r z1 z2 => R.inj k l dk dl r (keep z1 fun _ y => by cases y) (keep z2 fun _ y => by cases y), fun k d z => ?_⟩
  · rw [upd_ne (ne_of_none z gq)]
    exact R.gh a o z
  · by_cases y : a = q
    · rw [y, Ef.put_at] at z1
      rw [y, upd_same]
      exact z1
    · rw [Ef.put_ne y] at z1
      rw [upd_ne y]
      exact R.eh a o z1 z2
  · have n : a ≠ q := fun y => b3 (by rw [z, y])
    rw [Ef.put_ne n, upd_ne n]
    exact R.mh a z
  · by_cases y : a = q
    · rw [y]
      exact gq
    · rw [Ef.put_ne y] at z2
      exact R.nw a z1 z2
  · obtain ⟨p', w', a1, a2, a3, a4, a5⟩ := R.ac k d (keep z fun _ y => by cases y)
    have n : p' ≠ q := fun y => by
      rcases a5 with a5 | a5
      · rw [y, b4] at a5
        cases a5
      · exact b3 (by rw [a5.1, y])
    refine ⟨p', w', a1, a2, by rw [upd_ne n]; exact a3, a4, ?_⟩
    rcases a5 with a5 | a5
    · left
      rw [Ef.put_ne n]
      exact a5
    · exact .inr a5
  · rw [set_get] at z
    by_cases y : i = k ∧ k < e.length
    · rw [if_pos y] at z
      simp only [Option.some.injEq, Sl.nl.injEq] at z
      subst z
      rw [← y.1]
      refine ⟨p, qs, h1, by rw [Ef.put_ne pq]; exact h2, h3, h4, h5, by rw [List.length_set]; exact h6, h7, fun l b d2 r a1 a2 => ?_⟩
      rw [set_get] at a1
      by_cases w : j = l ∧ l < dss.length
      · rw [if_pos w] at a1
        cases a1
        rw [← w.1, hq] at a2
        cases a2
        exact ⟨b1, b2, b3, ws, Ef.put_at, hd⟩
      · rw [if_neg w] at a1
        have old := h8 l b d2 r a1 a2
        cases b with
        | true => exact old
        | false =>
          obtain ⟨c1, c2, c3, w2, c4, c5⟩ := old
          have n : r ≠ q := fun y2 => by
            have ll := (List.getElem?_eq_some_iff.mp a1).1
            have nd := (List.nodup_cons.mp h7).2
            have e2 : l = j := (List.getElem?_inj (by omega) nd).mp (by rw [a2, hq, y2])
            exact w ⟨e2.symm, ll⟩
          exact ⟨c1, c2, c3, w2, by rw [Ef.put_ne n]; exact c4, c5⟩
    · rw [if_neg y] at z
      have := oneNl_at one z
      exact absurd ⟨this.symm, (List.getElem?_eq_some_iff.mp z).1⟩ y
/-- an inner list is left as it is from here on -/
theorem Rl.fzN {dss : List (Bool × List PyData)} {j : Nat} {ds : List PyData} (R : Rl K m E G0 G e σ H) (h : e[i]? = some (some (.nl dss))) (one : oneNl i e = true) (hj : dss[j]? = some (false, ds)) :
    ∃ E' : Ef, E'.b = E.b ∧ ∃ G', Same G G' ∧ Rl K m E' G0 G' (e.set i (some (.nl (dss.set j (true, ds))))) σ H := by
  obtain ⟨p, qs, h1, h2, h3, h4, h5, h6, h7, h8⟩ := R.nl i dss h
  have jl : j < dss.length := (List.getElem?_eq_some_iff.mp hj).1
  obtain ⟨q, hq⟩ : ∃ q, qs[j]? = some q := ⟨qs[j]'(by omega), List.getElem?_eq_getElem _⟩
  obtain ⟨b1, b2, b3, ws0, b4, b5⟩ := h8 j false ds q hj hq
  have hqm : q ∈ qs := List.mem_of_getElem? hq
  have pq : p ≠ q := fun y => (List.nodup_cons.mp h7).1 (by rw [y]; exact hqm)
  have gq : G q = none := R.nw q b2 (by rw [b4]; simp)
  have hH := R.eh q _ b4 b3
  have s1 : Same G (upd G q (.lst ws0)) := same_new gq
  have dq : Dp K (upd G q (.lst ws0)) (.ref q) (.list ds) := .lst (.inl (.inl upd_same)) (dpAll_same s1 b5)
  refine ⟨E.put q b1 none, rfl, upd G q (.lst ws0), s1, ?_⟩
  have keep : ∀ {k : Nat} {s : Sl}, (e.set i (some (.nl (dss.set j (true, ds)))))[k]? = some (some s) → (∀ d, s ≠ .nl d) → e[k]? = some (some s) := fun {k s} z ns => by
    rw [set_get] at z
    by_cases y : i = k ∧ k < e.length
    · rw [if_pos y] at z
      cases z
      exact absurd rfl (ns _)
    · rw [if_neg y] at z
      exact z
  refine ⟨R.gg.trans s1, fun a o z => ?_, fun a o z1 z2 => ?_, fun a z => ?_, fun a z1 z2 => ?_, by rw [List.length_set]; exact R.len, fun k d z => ?_, fun k d z => ?_, fun k l dk dl r z1 z2 => R.inj k l dk dl r (keep z1 fun _ y => by cases y) (keep z2 fun _ y => by cases y), fun k d z => ?_⟩
  · by_cases y : a = q
    · rw [y, upd_same] at z
      rw [y, hH]
      exact z
    · rw [upd_ne y] at z
      exact R.gh a o z
  · by_cases y : a = q
    · rw [y, Ef.put_at] at z1
      cases z1
    · rw [Ef.put_ne y] at z1
      exact R.eh a o z1 z2
  · have n : a ≠ q := fun y => b3 (by rw [z, y])
    rw [Ef.put_ne n]
    exact R.mh a z
  · have n : a ≠ q := fun y => z2 (by rw [y, Ef.put_at])
    rw [Ef.put_ne n] at z2
    rw [upd_ne n]
    exact R.nw a z1 z2
  · obtain ⟨v, a1, a2⟩ := R.im k d (keep z fun _ y => by cases y)
    exact ⟨v, a1, dp_same s1 a2⟩
  · obtain ⟨p', w', a1, a2, a3, a4, a5⟩ := R.ac k d (keep z fun _ y => by cases y)
    have n : p' ≠ q := fun y => by
      rcases a5 with a5 | a5
      · rw [y, b4] at a5
        cases a5
      · exact b3 (by rw [a5.1, y])
    refine ⟨p', w', a1, by rw [upd_ne n]; exact a2, a3, dpAll_same s1 a4, ?_⟩
    rcases a5 with a5 | a5
    · left
      rw [Ef.put_ne n]
      exact a5
    · exact .inr a5
  · rw [set_get] at z
    by_cases y : i = k ∧ k < e.length
    · rw [if_pos y] at z
      simp only [Option.some.injEq, Sl.nl.injEq] at z
      subst z
      rw [← y.1]
      refine ⟨p, qs, h1, by rw [Ef.put_ne pq]; exact h2, h3, h4, h5, by rw [List.length_set]; exact h6, h7, fun l b d2 r a1 a2 => ?_⟩
      rw [set_get] at a1
      by_cases w : j = l ∧ l < dss.length
      · rw [if_pos w] at a1
        cases a1
        rw [← w.1, hq] at a2
        cases a2
        exact dq
      · rw [if_neg w] at a1
        have old := h8 l b d2 r a1 a2
        cases b with
        | true => exact dp_same s1 old
        | false =>
          obtain ⟨c1, c2, c3, w2, c4, c5⟩ := old
          have n : r ≠ q := fun y2 => by
            have ll := (List.getElem?_eq_some_iff.mp a1).1
            have nd := (List.nodup_cons.mp h7).2
            have e2 : l = j := (List.getElem?_inj (by omega) nd).mp (by rw [a2, hq, y2])
            exact w ⟨e2.symm, ll⟩
          exact ⟨c1, c2, c3, w2, by rw [Ef.put_ne n]; exact c4, dpAll_same s1 c5⟩
    · rw [if_neg y] at z
      have := oneNl_at one z
      exact absurd ⟨this.symm, (List.getElem?_eq_some_iff.mp z).1⟩ y
/-- all of it is left as it is, the inner ones being so -/
theorem Rl.fzA {dss : List (Bool × List PyData)} (R : Rl K m E G0 G e σ H) (h : e[i]? = some (some (.nl dss))) (all : dss.all (·.1) = true) (one : oneNl i e = true) :
    ∃ E' : Ef, E'.b = E.b ∧ ∃ G', Same G G' ∧ Rl K m E' G0 G' (e.set i (some (.im (.list (dss.map fun x => .list x.2))))) σ H := by
  obtain ⟨p, qs, h1, h2, h3, h4, h5, h6, h7, h8⟩ := R.nl i dss h
  have gp : G p = none := R.nw p h4 (by rw [h2]; simp)
  have hH := R.eh p _ h2 h5
  have s1 : Same G (upd G p (.lst (qs.map V.ref))) := same_new gp
  have dall : ∀ (qs : List Addr) (dss : List (Bool × List PyData)), qs.length = dss.length → dss.all (·.1) = true → (∀ (j : Nat) (b : Bool) (ds : List PyData) (q : Addr), dss[j]? = some (b, ds) → qs[j]? = some q → NiF K m E G0 G b ds q) → DpAll K G (qs.map V.ref) (dss.map fun x => .list x.2) := by
    intro qs
    induction qs with
    | nil =>
      intro dss hl _ _
      cases dss with
      | nil => exact .nil
      | cons _ _ => cases hl
    | cons q qs ih =>
      intro dss hl ha hk
      cases dss with
      | nil => cases hl
      | cons x dss =>
        obtain ⟨b, ds⟩ := x
        rw [List.all_cons, Bool.and_eq_true] at ha
        have hb : b = true := ha.1
        subst hb
        exact .cons (hk 0 true ds q rfl rfl) (ih dss (Nat.succ.inj hl) ha.2 fun j b ds q a1 a2 => hk (j + 1) b ds q a1 a2)
  have dp : Dp K (upd G p (.lst (qs.map V.ref))) (.ref p) (.list (dss.map fun x => .list x.2)) := .lst (.inl (.inl upd_same)) (dpAll_same s1 (dall qs dss h6 all h8))
  refine ⟨E.put p h3 none, rfl, upd G p (.lst (qs.map V.ref)), s1, ?_⟩
  have keep : ∀ {k : Nat} {s : Sl}, (e.set i (some (.im (.list (dss.map fun x => .list x.2)))))[k]? = some (some s) → (∀ d, s ≠ .im d) → e[k]? = some (some s) ∧ ¬ (i = k ∧ k < e.length) := fun {k s} z ns => by
    rw [set_get] at z
    by_cases y : i = k ∧ k < e.length
    · rw [if_pos y] at z
      cases z
      exact absurd rfl (ns _)
    · rw [if_neg y] at z
      exact ⟨z, y⟩
  refine ⟨R.gg.trans s1, fun a o z => ?_, fun a o z1 z2 => ?_, fun a z => ?_, fun a z1 z2 => ?_, by rw [List.length_set]; exact R.len, fun k d z => ?_, fun k d z => ?_, fun k l dk dl r z1 z2 => R.inj k l dk dl r (keep z1 fun _ y => by cases y).1 (keep z2 fun _ y => by cases y).1, fun k d z => ?_⟩
  · by_cases y : a = p
    · rw [y, upd_same] at z
      rw [y, hH]
      exact z
    · rw [upd_ne y] at z
      exact R.gh a o z
  · by_cases y : a = p
    · rw [y, Ef.put_at] at z1
      cases z1
    · rw [Ef.put_ne y] at z1
      exact R.eh a o z1 z2
  · have n : a ≠ p := fun y => h5 (by rw [z, y])
    rw [Ef.put_ne n]
    exact R.mh a z
  · have n : a ≠ p := fun y => z2 (by rw [y, Ef.put_at])
    rw [Ef.put_ne n] at z2
    rw [upd_ne n]
    exact R.nw a z1 z2
  · rw [set_get] at z
    by_cases y : i = k ∧ k < e.length
    · rw [if_pos y] at z
      cases z
      rw [← y.1]
      exact ⟨_, h1, dp⟩
    · rw [if_neg y] at z
      obtain ⟨v, a1, a2⟩ := R.im k d z
      exact ⟨v, a1, dp_same s1 a2⟩
  · obtain ⟨p', w', a1, a2, a3, a4, a5⟩ := R.ac k d (keep z fun _ y => by cases y).1
    have n : p' ≠ p := fun y => by
      rcases a5 with a5 | a5
      · rw [y, h2] at a5
        cases a5
      · exact h5 (by rw [a5.1, y])
    refine ⟨p', w', a1, by rw [upd_ne n]; exact a2, a3, dpAll_same s1 a4, ?_⟩
    rcases a5 with a5 | a5
    · left
      rw [Ef.put_ne n]
      exact a5
    · exact .inr a5
  · obtain ⟨z1, z2⟩ := keep z fun _ y => by cases y
    have := oneNl_at one z1
    exact absurd ⟨this.symm, (List.getElem?_eq_some_iff.mp z1).1⟩ z2
end
end DL
namespace DL
open L2 PySem PySem.Spec PySem.W PyProof.Rows

/-! ### statements that may move the frame -/
def PoSN (K : PySem.W.Frag) (m : Option Addr) (B G0 G : Hp) (D : Ends) : Fl → Prop
  | .nx e => ∀ (E : Ef) G' σ H, E.b = B → Same G G' → Rz K m E G0 G' e σ H → D.nx σ H
  | .bk e => ∀ (E : Ef) G' σ H, E.b = B → Same G G' → Rz K m E G0 G' e σ H → D.bk σ H
  | .ct e => ∀ (E : Ef) G' σ H, E.b = B → Same G G' → Rz K m E G0 G' e σ H → D.ct σ H
  | .rt r e => ∀ (E : Ef) v G' σ H, E.b = B → Same G G' → Rz K m E G0 G' e σ H → Vr K E G' H σ e v r → D.rt v H
structure SDN (X : Cx) (st : Stmt) (f : Fs) : Prop where
  ex : ∃ t : TS, PS X st t ∧ ∀ (m : Option Addr) (E : Ef) (G0 G : Hp) (e : Ev) (σ : St) (H : Hp) (fl : Fl) (D : Ends),
    Rz X.K m E G0 G e σ H → f e = some fl → PoSN X.K m E.b G0 G D fl → t D σ H
structure SsDN (X : Cx) (sts : List Stmt) (f : Fs) : Prop where
  ex : ∃ t : TS, PSs X sts t ∧ ∀ (m : Option Addr) (E : Ef) (G0 G : Hp) (e : Ev) (σ : St) (H : Hp) (fl : Fl) (D : Ends),
    Rz X.K m E G0 G e σ H → f e = some fl → PoSN X.K m E.b G0 G D fl → t D σ H
section
variable {K : PySem.W.Frag} {m : Option Addr} {B G0 G G' H : Hp} {E : Ef} {D : Ends} {fl : Fl} {e : Ev} {σ : St}
theorem PoSN.aft (P : PoSN K m B G0 G D fl) (s : Same G G') : PoSN K m B G0 G' D fl := by
  cases fl with
  | nx e => exact fun E G2 σ H b s2 R => P E G2 σ H b (s.trans s2) R
  | bk e => exact fun E G2 σ H b s2 R => P E G2 σ H b (s.trans s2) R
  | ct e => exact fun E G2 σ H b s2 R => P E G2 σ H b (s.trans s2) R
  | rt r e => exact fun E v G2 σ H b s2 R V => P E v G2 σ H b (s.trans s2) R V
theorem PoSN.pos (P : PoSN K m E.b G0 G D fl) : PoS K m E G0 G D fl := by
  cases fl with
  | nx e => exact fun G' σ H s R => P E G' σ H rfl s R
  | bk e => exact fun G' σ H s R => P E G' σ H rfl s R
  | ct e => exact fun G' σ H s R => P E G' σ H rfl s R
  | rt r e => exact fun v G' σ H s R V => P E v G' σ H rfl s R V
end
section
variable {X : Cx} {st : Stmt} {rest sts : List Stmt} {f g : Fs} {pos : Pos} {a : Expr} {fe : Fe}
theorem SD.n (h : SD X st f) : SDN X st f := by
  obtain ⟨t, p, k⟩ := h
  exact ⟨t, p, fun m E G0 G e σ H fl D R q P => k m E G0 G e σ H fl D R q P.pos⟩
theorem ssdn_nil : SsDN X [] s_nx := ⟨_, pss_nil, fun m E G0 G e σ H fl D R q P => by
  cases q
  exact P E G σ H rfl (Same.refl _) R⟩
theorem ssdn_cons (h : SDN X st f) (h2 : SsDN X rest g) : SsDN X (st :: rest) (s_seq f g) := by
  obtain ⟨t, p, k⟩ := h
  obtain ⟨t2, p2, k2⟩ := h2
  refine ⟨_, pss_cons p p2, fun m E G0 G e σ H fl D R q P => ?_⟩
  unfold s_seq at q
  split at q
  · rename_i e1 h1
    refine k m E G0 G e σ H _ _ R h1 ?_
    intro E1 G' σ' H' b s R'
    refine k2 m E1 G0 G' e1 σ' H' fl D R' q ?_
    rw [b]
    exact P.aft s
  · rename_i x h2 h1
    cases q
    refine k m E G0 G e σ H _ _ R h1 ?_
    cases fl with
    | nx e1 => exact (h2 e1 rfl).elim
    | bk e => exact P
    | ct e => exact P
    | rt r e => exact P
  · cases q
theorem ssdn_one (h : SDN X st f) : SsDN X [st] f := by
  obtain ⟨t, p, k⟩ := h
  exact ⟨_, pss_one p, k⟩
theorem sdn_if {tst : Expr} {A B : List Stmt} {c : Ft} (hc : TD X tst c) (ha : SsDN X A f) (hb : SsDN X B g) : SDN X (.If tst A B pos) (s_if c f g) := by
  obtain ⟨t, p, k⟩ := hc
  obtain ⟨t1, p1, k1⟩ := ha
  obtain ⟨t2, p2, k2⟩ := hb
  refine ⟨_, ps_if p p1 p2, fun m E G0 G e σ H fl D R q P => ?_⟩
  unfold s_if at q
  split at q
  · rename_i e1 h1
    refine k m E G0 G e σ H true e1 _ R.r h1 fun G' H' R' S' => ?_
    rw [if_pos rfl]
    exact k1 m E G0 G' e1 σ H' fl D (R.exp R' S') q (P.aft S'.gg)
  · rename_i e1 h1
    refine k m E G0 G e σ H false e1 _ R.r h1 fun G' H' R' S' => ?_
    rw [if_neg (by decide)]
    exact k2 m E G0 G' e1 σ H' fl D (R.exp R' S') q (P.aft S'.gg)
  · cases q
theorem sdn_for {tg it : Expr} {body : List Stmt} {fi : Fi} {S : List Nat} {γ : PyData → Ev → Option Ev} {fb : Fs} (hc : X.calm = true) (hp : PassesOwn (model X.prog X.w) X.A X.env X.xe) (hi : ID X tg it fi) (hg : GD X tg S γ) (hb : SsDN X body fb)
    (hs : ∀ x, foldedSetIterable it X.env x = pure x := by intro _; rfl) : SDN X (.For tg it body [] pos) (s_for fi γ S fb) := by
  obtain ⟨wi, pi, ki⟩ := hi
  obtain ⟨g, pg, kg⟩ := hg
  obtain ⟨tb, pb, kb⟩ := hb
  refine ⟨_, ps_for hp hc pi pg pb hs, fun m E G0 G e σ H fl D R q P => ?_⟩
  unfold s_for at q
  cases h1 : fi e with
  | none => simp only [h1] at q; cases q
  | some z =>
    obtain ⟨ds, e1⟩ := z
    simp only [h1] at q
    refine ki m E G0 G e σ H ds e1 _ R.r h1 fun J G1 H1 R1 S1 W1 => ?_
    let W : Nat → Nat → St → Hp → Prop := fun i mm σ H => ∃ (E2 : Ef) (G2 : Hp) (e2 : Ev), E2.b = E.b ∧ mm = ds.length - i ∧ i ≤ ds.length ∧ Rz X.K m E2 G0 G2 e2 σ H ∧ Same G1 G2 ∧ forGo γ S fb (ds.drop i) e2 = some fl
    refine ⟨W, ⟨ds.length, E, G1, e1, rfl, by simp, Nat.zero_le _, R.exp R1 S1, Same.refl _, by simpa using q⟩, ?_⟩
    rintro i mm σ2 H2 ⟨E2, G2, e2, eb, rfl, hi, R2, s2, lc⟩
    obtain ⟨wk, stop⟩ := W1 G2 H2 s2 R2.r.gh
    by_cases hlt : i < ds.length
    · have hd : ds.drop i = ds[i] :: ds.drop (i + 1) := List.drop_eq_getElem_cons hlt
      have hget : ds[i]? = some ds[i] := List.getElem?_eq_getElem hlt
      rw [hd] at lc
      generalize ds[i] = d at lc hget hd
      obtain ⟨go, yl⟩ := wk i d hget
      refine .inr ⟨go, W (i + 1) (ds.length - (i + 1)), fun σ' H' h => ⟨_, by omega, h⟩, fun x H' y => ?_⟩
      have hY : ∃ G', Rz X.K m E2 G0 G' e2 σ2 H' ∧ Same G2 G' ∧ Dp X.K G' x d := by
        rcases yl x H' y with ⟨rfl, h⟩ | ⟨T, us, es, rfl, nT, rfl, rfl, h⟩
        · exact ⟨G2, R2, Same.refl _, h⟩
        · obtain ⟨R', S', D'⟩ := R2.r.newT nT h
          exact ⟨_, R2.exp R' S', S'.gg, D'⟩
      obtain ⟨G', R', s', dx⟩ := hY
      simp only [forGo] at lc
      by_cases ok : okS S e2 = true
      · rw [if_pos ok] at lc
        cases h2 : γ d e2 with
        | none => simp only [h2] at lc; cases lc
        | some e3 =>
          simp only [h2] at lc
          refine kg m E2 G0 G' e2 σ2 H' x d e3 _ R'.r dx h2 fun σ3 R3 out sl el ac1 => ?_
          have R3' : Rz X.K m E2 G0 G' e3 σ3 H' := ⟨R3, fun p z => by
            obtain ⟨z1, z2⟩ := R'.z p z
            obtain ⟨o1, o2⟩ := out 0 (okS_no ok z1)
            rw [o1, o2]
            exact ⟨z1, z2⟩⟩
          cases h3 : fb e3 with
          | none => simp only [h3] at lc; cases lc
          | some x3 =>
            refine kb m E2 G0 G' e3 σ3 H' x3 _ R3' h3 ?_
            cases x3 with
            | nx e4 =>
              simp only [h3] at lc
              exact fun E4 G4 σ4 H4 b4 s4 R4 => ⟨E4, G4, e4, b4.trans eb, rfl, hlt, R4, s2.trans (s'.trans s4), lc⟩
            | ct e4 =>
              simp only [h3] at lc
              exact fun E4 G4 σ4 H4 b4 s4 R4 => ⟨E4, G4, e4, b4.trans eb, rfl, hlt, R4, s2.trans (s'.trans s4), lc⟩
            | bk e4 =>
              simp only [h3, Option.some.injEq] at lc
              subst lc
              exact fun E4 G4 σ4 H4 b4 s4 R4 => P E4 G4 σ4 H4 (b4.trans eb) (S1.gg.trans (s2.trans (s'.trans s4))) R4
            | rt r e4 =>
              simp only [h3, Option.some.injEq] at lc
              subst lc
              exact fun E4 v G4 σ4 H4 b4 s4 R4 V => P E4 v G4 σ4 H4 (b4.trans eb) (S1.gg.trans (s2.trans (s'.trans s4))) R4 V
      · rw [if_neg ok] at lc
        cases lc
    · have hi2 : i = ds.length := by omega
      subst hi2
      rw [List.drop_length] at lc
      cases lc
      exact .inl ⟨stop, P E2 G2 σ2 H2 eb (S1.gg.trans s2) R2⟩
theorem sdn_while (n : Ev → Nat) {c : Expr} {body : List Stmt} {tst : Ft} {fb : Fs} (hp : PassesOwn (model X.prog X.w) X.A X.env X.xe) (hc : TD X c tst) (hb : SsDN X body fb) : SDN X (.While c body [] pos) (s_while n tst fb) := by
  obtain ⟨tc, pc, kc⟩ := hc
  obtain ⟨tb, pb, kb⟩ := hb
  refine ⟨_, ps_while hp pc pb, fun m E G0 G e σ H fl D R q P => ?_⟩
  let W : Nat → St → Hp → Prop := fun mm σ H => ∃ (E2 : Ef) (G2 : Hp) (e2 : Ev), E2.b = E.b ∧ Rz X.K m E2 G0 G2 e2 σ H ∧ Same G G2 ∧ whGo tst fb mm e2 = some fl
  refine ⟨W, ⟨n e, E, G, e, rfl, R, Same.refl _, q⟩, ?_⟩
  rintro mm σ2 H2 ⟨E2, G2, e2, eb, R2, s2, lc⟩
  cases mm with
  | zero => cases lc
  | succ mm =>
    simp only [whGo] at lc
    cases h1 : tst e2 with
    | none => simp only [h1] at lc; cases lc
    | some z =>
      obtain ⟨b, e3⟩ := z
      refine kc m E2 G0 G2 e2 σ2 H2 b e3 _ R2.r h1 fun G3 H3 R3 S3 => ?_
      have Rx := R2.exp R3 S3
      cases b with
      | false =>
        simp only [h1, Option.some.injEq] at lc
        subst lc
        rw [if_neg (by decide)]
        exact P E2 G3 σ2 H3 eb (s2.trans S3.gg) Rx
      | true =>
        simp only [h1] at lc
        rw [if_pos rfl]
        refine ⟨W mm, fun σ' H' h => ⟨mm, Nat.lt_succ_self _, h⟩, ?_⟩
        cases h3 : fb e3 with
        | none => simp only [h3] at lc; cases lc
        | some x3 =>
          refine kb m E2 G0 G3 e3 σ2 H3 x3 _ Rx h3 ?_
          cases x3 with
          | nx e4 =>
            simp only [h3] at lc
            exact fun E4 G4 σ4 H4 b4 s4 R4 => ⟨E4, G4, e4, b4.trans eb, R4, s2.trans (S3.gg.trans s4), lc⟩
          | ct e4 =>
            simp only [h3] at lc
            exact fun E4 G4 σ4 H4 b4 s4 R4 => ⟨E4, G4, e4, b4.trans eb, R4, s2.trans (S3.gg.trans s4), lc⟩
          | bk e4 =>
            simp only [h3, Option.some.injEq] at lc
            subst lc
            exact fun E4 G4 σ4 H4 b4 s4 R4 => P E4 G4 σ4 H4 (b4.trans eb) (s2.trans (S3.gg.trans s4)) R4
          | rt r e4 =>
            simp only [h3, Option.some.injEq] at lc
            subst lc
            exact fun E4 v G4 σ4 H4 b4 s4 R4 V => P E4 v G4 σ4 H4 (b4.trans eb) (s2.trans (S3.gg.trans s4)) R4 V
theorem SDN.fz (j : Nat) (h : SDN X st f) (hj : j ≠ 0 := by decide) : SDN X st (s_fz j f) := by
  obtain ⟨t, p, k⟩ := h
  refine ⟨_, p, fun m E G0 G e σ H fl D R q P => ?_⟩
  obtain ⟨G', s, R'⟩ := R.fz hj
  exact k m E G0 G' _ σ H fl D R' q (P.aft s)
end
/-! ### a step of the ghost ahead of a statement -/
section
variable {K : PySem.W.Frag} {m : Option Addr} {E : Ef} {G0 G H : Hp} {e : Ev} {σ : St} {i : Nat}
/-- slot i is not the caller's list -/
theorem Rz.set (R : Rz K m E G0 G e σ H) {E' : Ef} {G' H' : Hp} {s : Option Sl} (ok : okS [i] e = true) (R' : Rl K m E' G0 G' (e.set i s) σ H') : Rz K m E' G0 G' (e.set i s) σ H' :=
  ⟨R', fun p z => by
    obtain ⟨z1, z2⟩ := R.z p z
    have n : i ≠ 0 := fun y => okS_no ok z1 (by rw [y]; exact List.mem_singleton.mpr rfl)
    rw [List.getElem?_set_ne n]
    exact ⟨z1, z2⟩⟩
def fzI (i : Nat) (g : Ev → Option Nat) (e : Ev) : Ev := match e[i]?, g e with
  | some (some (.nl dss)), some j => (match dss[j]? with
    | some (false, ds) => if (oneNl i e && okS [i] e) = true then e.set i (some (.nl (dss.set j (true, ds)))) else e
    | _ => e)
  | _, _ => e
theorem Rz.fzI {g : Ev → Option Nat} (R : Rz K m E G0 G e σ H) : ∃ E' : Ef, E'.b = E.b ∧ ∃ G', Same G G' ∧ Rz K m E' G0 G' (fzI i g e) σ H := by
  unfold DL.fzI
  split
  · rename_i dss j h1 h2
    split
    · rename_i ds h3
      by_cases h4 : (oneNl i e && okS [i] e) = true
      · rw [if_pos h4]
        rw [Bool.and_eq_true] at h4
        obtain ⟨E', b, G', s, R'⟩ := R.r.fzN h1 h4.1 h3
        exact ⟨E', b, G', s, R.set h4.2 R'⟩
      · rw [if_neg h4]
        exact ⟨E, rfl, G, Same.refl _, R⟩
    · exact ⟨E, rfl, G, Same.refl _, R⟩
  · exact ⟨E, rfl, G, Same.refl _, R⟩
def fzAll (i : Nat) (e : Ev) : Ev := match e[i]? with
  | some (some (.nl dss)) => if (oneNl i e && okS [i] e) = true then e.set i (some (.im (.list (dss.map fun x => .list x.2)))) else e
  | _ => e
theorem oneNl_set {s : Option Sl} (h : oneNl i e = true) : oneNl i (e.set i s) = true := by
  unfold oneNl at h ⊢
  rw [List.length_set]
  refine List.all_eq_true.mpr fun j hj => ?_
  have q := List.all_eq_true.mp h j hj
  by_cases z : j = i
  · rw [z]
    simp
  · rw [List.getElem?_set_ne fun y => z y.symm]
    exact q
theorem okS_set {s : Option Sl} (h : okS [i] e = true) (ns : isAc (some s) = false) : okS [i] (e.set i s) = true := by
  unfold okS at h ⊢
  by_cases z : i = 0
  · subst z
    cases e with
    | nil => rfl
    | cons a e =>
      show (!(_ && isAc (some s))) = true
      rw [ns]
      simp
  · rw [List.getElem?_set_ne z]
    exact h
theorem fz_front {dss : List (Bool × List PyData)} (R : Rz K m E G0 G e σ H) (h : e[i]? = some (some (.nl dss))) (one : oneNl i e = true) (ok : okS [i] e = true) : ∀ n, n ≤ dss.length →
    ∃ E' : Ef, E'.b = E.b ∧ ∃ G', Same G G' ∧ Rz K m E' G0 G' (e.set i (some (.nl ((dss.take n).map (fun x => (true, x.2)) ++ dss.drop n)))) σ H := by
  intro n
  induction n with
  | zero =>
    intro _
    refine ⟨E, rfl, G, Same.refl _, ?_⟩
    rw [List.take_zero, List.map_nil, List.nil_append, List.drop_zero, set_self h]
    exact R
  | succ n ih =>
    intro hn
    obtain ⟨E1, b1, G1, s1, R1⟩ := ih (by omega)
    have hl : i < e.length := (List.getElem?_eq_some_iff.mp h).1
    have hx : dss[n]? = some dss[n] := List.getElem?_eq_getElem (by omega)
    generalize dss[n] = x at hx
    obtain ⟨b, ds⟩ := x
    have tk : dss.take (n + 1) = dss.take n ++ [(b, ds)] := by rw [List.take_succ, hx]; rfl
    have dk : dss.drop n = (b, ds) :: dss.drop (n + 1) := by
      rw [List.drop_eq_getElem_cons (by omega : n < dss.length)]
      congr 1
      rw [List.getElem?_eq_getElem (by omega)] at hx
      exact Option.some.inj hx
    have e1 : (e.set i (some (.nl ((dss.take n).map (fun x => (true, x.2)) ++ dss.drop n))))[i]? = some (some (.nl ((dss.take n).map (fun x => (true, x.2)) ++ dss.drop n))) := by
      rw [set_get, if_pos ⟨rfl, hl⟩]
    have ln : ((dss.take n).map (fun x : Bool × List PyData => (true, x.2))).length = n := by
      rw [List.length_map, List.length_take]
      omega
    cases b with
    | true =>
      refine ⟨E1, b1, G1, s1, ?_⟩
      rw [tk, List.map_append, List.append_assoc]
      rw [dk] at R1
      exact R1
    | false =>
      have at_ : ((dss.take n).map (fun x => (true, x.2)) ++ dss.drop n)[n]? = some (false, ds) := by
        rw [List.getElem?_append_right (by omega), ln, Nat.sub_self, dk]
        rfl
      obtain ⟨E2, b2, G2, s2, R2⟩ := R1.r.fzN e1 (oneNl_set one) at_
      refine ⟨E2, b2.trans b1, G2, s1.trans s2, ?_⟩
      have e2 : ((dss.take n).map (fun x => (true, x.2)) ++ dss.drop n).set n (true, ds) = (dss.take (n + 1)).map (fun x => (true, x.2)) ++ dss.drop (n + 1) := by
        rw [List.set_append_right _ _ (by omega), ln, Nat.sub_self, dk, tk, List.map_append, List.append_assoc]
        rfl
      rw [List.set_set, e2] at R2
      exact R.set ok R2
theorem Rz.fzAll (R : Rz K m E G0 G e σ H) : ∃ E' : Ef, E'.b = E.b ∧ ∃ G', Same G G' ∧ Rz K m E' G0 G' (fzAll i e) σ H := by
  unfold DL.fzAll
  split
  · rename_i dss h
    by_cases h4 : (oneNl i e && okS [i] e) = true
    · rw [if_pos h4]
      rw [Bool.and_eq_true] at h4
      obtain ⟨E1, b1, G1, s1, R1⟩ := fz_front R h h4.1 h4.2 dss.length (Nat.le_refl _)
      rw [List.take_length, List.drop_length, List.append_nil] at R1
      have hl : i < e.length := (List.getElem?_eq_some_iff.mp h).1
      obtain ⟨E2, b2, G2, s2, R2⟩ := R1.r.fzA (dss := dss.map fun x => (true, x.2)) (by rw [set_get, if_pos ⟨rfl, hl⟩]) (by simp) (oneNl_set h4.1)
      refine ⟨E2, b2.trans b1, G2, s1.trans s2, ?_⟩
      rw [List.set_set, List.map_map] at R2
      exact R.set h4.2 R2
    · rw [if_neg h4]
      exact ⟨E, rfl, G, Same.refl _, R⟩
  · exact ⟨E, rfl, G, Same.refl _, R⟩
end
def s_nfz (i : Nat) (g : Ev → Option Nat) (f : Fs) : Fs := fun e => f (fzI i g e)
def s_nfa (i : Nat) (f : Fs) : Fs := fun e => f (fzAll i e)
/-- the place that an index tells -/
def ixF (i : Nat) (fk : Fe) : Ev → Option Nat := fun e => match e[i]?, fk e with
  | some (some (.nl dss)), some (.im (.int k), _) => ixN dss.length k
  | _, _ => none
section
variable {X : Cx} {st : Stmt} {f : Fs} {pos : Pos} {a b : Expr} {fa fk : Fe}
theorem SDN.fzI (i : Nat) (g : Ev → Option Nat) (h : SDN X st f) : SDN X st (s_nfz i g f) := by
  obtain ⟨t, p, k⟩ := h
  refine ⟨_, p, fun m E G0 G e σ H fl D R q P => ?_⟩
  obtain ⟨E', eb, G', s, R'⟩ := R.fzI (i := i) (g := g)
  refine k m E' G0 G' _ σ H fl D R' q ?_
  rw [eb]
  exact P.aft s
theorem SDN.fzAll (i : Nat) (h : SDN X st f) : SDN X st (s_nfa i f) := by
  obtain ⟨t, p, k⟩ := h
  refine ⟨_, p, fun m E G0 G e σ H fl D R q P => ?_⟩
  obtain ⟨E', eb, G', s, R'⟩ := R.fzAll (i := i)
  refine k m E' G0 G' _ σ H fl D R' q ?_
  rw [eb]
  exact P.aft s
/-! ### x[k], an inner list that is left as it is -/
def x_ixn (i : Nat) (fk : Fe) : Fe := fun e => if isNl e[i]? = true then (match fk e with
  | some (.im (.int k), e1) => (match e1[i]? with
    | some (some (.nl dss)) => (match atI dss k with
      | some (true, ds) => some (.im (.list ds), e1)
      | _ => none)
    | _ => none)
  | _ => none) else none
theorem atI_iff {α : Type} {xs : List α} {k : Int} {x : α} (h : atI xs k = some x) : ∃ j, ixN xs.length k = some j ∧ xs[j]? = some x := by
  unfold atI at h
  cases z : ixN xs.length k with
  | none => rw [z] at h; cases h
  | some j =>
    rw [z] at h
    exact ⟨j, rfl, h⟩
theorem atI_of {α : Type} {xs : List α} {k : Int} {x : α} {j : Nat} (h : ixN xs.length k = some j) (z : xs[j]? = some x) : atI xs k = some x := by
  unfold atI
  rw [h]
  exact z
theorem ixN_lt {n : Nat} {k : Int} {j : Nat} (h : ixN n k = some j) : j < n := (ixN_seq h).2.1
/-- what stands in the slot -/
theorem Rl.nlP {K : PySem.W.Frag} {m : Option Addr} {E : Ef} {G0 G H : Hp} {e : Ev} {σ : St} {i : Nat} {dss : List (Bool × List PyData)} (R : Rl K m E G0 G e σ H) (h : e[i]? = some (some (.nl dss))) :
    ∃ (p : Addr) (qs : List Addr), σ[i]? = some (some (.ref p)) ∧ E.h p = some (.lst (qs.map V.ref)) ∧ m ≠ some p ∧ qs.length = dss.length := by
  obtain ⟨p, qs, h1, h2, _, _, h5, h6, _⟩ := R.nl i dss h
  exact ⟨p, qs, h1, h2, h5, h6⟩
theorem refs_inj : ∀ {qs rs : List Addr}, qs.map V.ref = rs.map V.ref → qs = rs
  | [], [], _ => rfl
  | [], _ :: _, h => nomatch h
  | _ :: _, [], h => nomatch h
  | q :: qs, r :: rs, h => by
    rw [List.map_cons, List.map_cons] at h
    injection h with h1 h2
    injection h1 with h1
    rw [h1, refs_inj h2]
theorem ed_ixn (i : Nat) {x : Str} {np : Pos} (hk : ED X b fk) (hN : X.N[i]? = some x := by rfl) (hv : Vis X.env.scope x := by first | exact Or.inl rfl | exact Or.inr (Or.inl rfl) | exact Or.inr (Or.inr rfl))
    (hd : (x == ("__debug__" : Str)) = false := by decide) (hcd : (x == ("__classdict__" : Str)) = false := by decide) (hs : PlainIx b := by intros; intro _ _; with_unfolding_all rfl) : ED X (.Subscript (.Name x np) b pos) (x_ixn i fk) := by
  obtain ⟨t, p, k⟩ := hk
  refine ⟨_, pe_ix ix_list (pe_var hN hv hd hcd) p hs, fun m E G0 G e σ H r e' Q R q P => ?_⟩
  unfold x_ixn at q
  by_cases h0 : isNl e[i]? = true
  · rw [if_pos h0] at q
    obtain ⟨dss0, h00⟩ := isNl_iff h0
    obtain ⟨a, qs, hσ, hE, hm, hl⟩ := R.nlP h00
    refine ⟨.ref a, hσ, ?_⟩
    split at q
    · rename_i kk e1 h1
      split at q
      · rename_i dss h2
        split at q
        · rename_i ds h3
          cases q
          refine k m E G0 G e σ H _ _ _ R h1 fun v G1 H1 R1 S1 V1 N1 => ?_
          cases V1
          obtain ⟨j, j1, j2⟩ := atI_iff h3
          obtain ⟨p', qs', c1, c2, c3, c4, c5, c6, c7, c8⟩ := R1.nl i dss h2
          rw [hσ] at c1
          cases c1
          rw [hE] at c2
          injection c2 with c2
          injection c2 with c2
          have eq := refs_inj c2
          subst eq
          obtain ⟨z, hz⟩ : ∃ z, qs[j]? = some z := ⟨qs[j]'(by have := ixN_lt j1; omega), List.getElem?_eq_getElem _⟩
          have dz := c8 j true ds z j2 hz
          refine ⟨a, qs.map V.ref, kk, .ref z, rfl, rfl, .inl (.inl (R1.eh a _ hE hm)), atI_of (j := j) (by rw [List.length_map, c6]; exact j1) (by rw [List.getElem?_map, hz]; rfl), P (.ref z) G1 H1 R1 S1 dz True.intro⟩
        · cases q
      · cases q
    · cases q
  · rw [if_neg h0] at q
    cases q
end
end DL
namespace DL
open L2 PySem PySem.Spec PySem.W PyProof.Rows

/-! ### xs.extend(ys), ys any list or tuple -/
theorem meets_ext (T : String) (hT : T = "list" ∨ T = "tuple") (l b : Addr) (xs ys : Array Value) (n n2 : Nat) (dd2 : Option Addr) (sl2 : Array (Option Value)) (h0 : ¬(!xs.isEmpty && Builtin.List.listTooLong (xs.size + ys.size)) = true)
    (h1 : xs.size ≤ sizeLine) (h2 : xs.size + ys.size ≤ sizeLine + 1) :
    Meets (Builtin.«list.extend» ⟨[.ref l, .ref b], []⟩) (fun _ R s => s.heap.get? l = some { cls := .type "list", data := .seq xs n } ∧ s.heap.get? b = some { cls := .type T, dict := dd2, data := .seq ys n2, slots := sl2 } ∧
      R (.ok (.ret Value.none)) { s with heap := s.heap.update l (Obj.mapSeq fun x => x ++ ys), toks := s.toks }) := by
  have h3 : (xs ++ ys).size ≤ sizeLine + 1 := by
    rw [Array.size_append]
    exact h2
  rcases hT with rfl | rfl
  · refine .of_wp fun prog w A R s h => ?_
    obtain ⟨hp, g, d, tk, os⟩ := s
    obtain ⟨hl, hb, k⟩ := h
    have i1 := AutoSeq1.idx_int
    have i2 := AutoSeq1.sub_tuple_tuple
    have i3 := AutoSeq1.sub_list_list
    have i4 := AutoSeq1.sub_tuple_list
    have i5 := AutoSeq1.sub_list_tuple
    wp_walk using (wpAny_updateSeq hl rfl (hz := h1) (_hz' := h3)), wpAny_loadPart' hl, wpAny_loadPart' hb
    exact ⟨_, rfl, k⟩
  · refine .of_wp fun prog w A R s h => ?_
    obtain ⟨hp, g, d, tk, os⟩ := s
    obtain ⟨hl, hb, k⟩ := h
    have i1 := AutoSeq1.idx_int
    have i2 := AutoSeq1.sub_tuple_tuple
    have i3 := AutoSeq1.sub_list_list
    have i4 := AutoSeq1.sub_tuple_list
    have i5 := AutoSeq1.sub_list_tuple
    wp_walk using (wpAny_updateSeq hl rfl (hz := h1) (_hz' := h3)), wpAny_loadPart' hl, wpAny_loadPart' hb
    exact ⟨_, rfl, k⟩
def rExtS (K : PySem.W.Frag) : V → List V → Hp → VK → Prop := fun x vs H Q => ∃ l b xs zs, x = .ref l ∧ vs = [.ref b] ∧ H l = some (.lst xs) ∧ (SqL K H b zs ∨ SqT K H b zs) ∧ xs.length + zs.length ≤ sizeLine ∧ Q .non (upd H l (.lst (xs ++ zs)))
theorem mt_extS {X : Cx} : MtM X "list.extend" (rExtS X.K) := by
  rintro pins s σ H x vs v us Q I rx rv ⟨l, b, xs, zs, rfl, rfl, hH, hB, hz, q⟩
  cases rx
  obtain ⟨u, rfl, ru⟩ := rv.one
  cases ru
  obtain ⟨z, its, n, r, hl, e⟩ := I.lstM hH
  have main : ∀ (T : String) (its2 : List Value) (o : Obj) (n2 : Nat), (T = "list" ∨ T = "tuple") → Vals zs its2 → s.heap.get? b = some o → o.cls = .type T → o.data = .seq its2.toArray n2 → wpAny (model X.prog X.w) X.A (call (.builtin "list.extend") [.ref l, .ref b]) (EP X pins σ Q) X.xe s := by
    intro T its2 o n2 hT r2 e2 c2 d2
    have l2 := r2.length
    have sz : its.toArray.size + its2.toArray.size ≤ sizeLine := by
      rw [List.size_toArray, List.size_toArray]
      omega
    have lg : ¬ (!its.toArray.isEmpty && Builtin.List.listTooLong (its.toArray.size + its2.toArray.size)) = true := by
      rw [notLongL sz]
      simp
    obtain ⟨c, dd, dt, sl⟩ := o
    dsimp only at c2 d2
    subst c2 d2
    refine call_meets F.slot_list_extend ⟨_, e, rfl⟩ F.entry_list_extend (F.args_list_extend_2 _ _) (meets_ext T hT l b its.toArray its2.toArray n n2 dd sl lg (Nat.le_trans (Nat.le_add_right _ _) sz) (Nat.le_succ_of_le sz)) ⟨e, e2, .non, _, I.lset (its' := its ++ its2) hH e (by simp) (r.append r2) ?_, rfl, q⟩
    rw [List.length_append]
    exact hz
  rcases hB with hB | hB
  · obtain ⟨its2, r2, ⟨o, n2, e2, c2, _, d2⟩, z2⟩ := I.list hB
    exact main "list" its2 o n2 (.inl rfl) r2 e2 c2 d2
  · obtain ⟨its2, r2, ⟨o, e2, c2, n2, d2⟩, z2⟩ := I.tuple hB
    exact main "tuple" its2 o n2 (.inr rfl) r2 e2 c2 d2
section
variable {K : PySem.W.Frag} {m : Option Addr} {E : Ef} {G0 G H : Hp} {e : Ev} {σ : St} {i j : Nat}
/-- an inner list, seen from the heap -/
theorem Rl.nlAt {dss : List (Bool × List PyData)} {x : Bool × List PyData} (R : Rl K m E G0 G e σ H) (h : e[i]? = some (some (.nl dss))) (hj : dss[j]? = some x) :
    ∃ (p : Addr) (qs : List Addr) (z : Addr), σ[i]? = some (some (.ref p)) ∧ E.h p = some (.lst (qs.map V.ref)) ∧ H p = some (.lst (qs.map V.ref)) ∧ qs.length = dss.length ∧ qs[j]? = some z ∧ ∃ ws, SqL K H z ws := by
  obtain ⟨p, qs, h1, h2, h3, h4, h5, h6, h7, h8⟩ := R.nl i dss h
  have jl := (List.getElem?_eq_some_iff.mp hj).1
  obtain ⟨z, hz⟩ : ∃ z, qs[j]? = some z := ⟨qs[j]'(by omega), List.getElem?_eq_getElem _⟩
  refine ⟨p, qs, z, h1, h2, R.eh p _ h2 h5, h6, hz, ?_⟩
  obtain ⟨b, ds⟩ := x
  have w := h8 j b ds z hj hz
  cases b with
  | true =>
    have w2 : Dp K G (.ref z) (.list ds) := w
    cases w2 with
    | lst q _ => exact ⟨_, R.gh.seq q⟩
  | false =>
    obtain ⟨b1, b2, b3, ws, b4, b5⟩ := w
    exact ⟨ws, .inl (.inl (R.eh z _ b4 b3))⟩
end
section
variable {X : Cx} {pos : Pos} {a b : Expr} {fa fk : Fe}
/-! ### x[k].append(v), x[k].extend(v) -/
/-- the list and the place -/
def nlK (i : Nat) (fk : Fe) : Ev → Option (Nat × Ev) := fun e => if isNl e[i]? = true then (match fk e with
  | some (.im (.int k), e1) => (match e1[i]? with
    | some (some (.nl dss)) => (match ixN dss.length k with
      | some j => some (j, e1)
      | none => none)
    | _ => none)
  | _ => none) else none
def itD : PyData → Option (List PyData)
  | .list ds => some ds
  | .tuple ds => some ds
  | _ => none
def nlPut (i j : Nat) (es : List PyData) (e : Ev) : Option Fl := match e[i]? with
  | some (some (.nl dss)) => (match dss[j]? with
    | some (false, ds) => if (oneNl i e && (okS [i] e && okLen (ds.length + es.length))) = true then some (.nx (e.set i (some (.nl (dss.set j (false, ds ++ es)))))) else none
    | _ => none)
  | _ => none
def s_nap (i : Nat) (fk fv : Fe) : Fs := fun e => match nlK i fk e with
  | some (j, e1) => (match fv e1 with
    | some (r, e2) => (match imR (frzR r) with
      | some d => nlPut i j [d] e2
      | none => none)
    | none => none)
  | none => none
def s_nex (i : Nat) (fk fv : Fe) : Fs := fun e => match nlK i fk e with
  | some (j, e1) => (match fv e1 with
    | some (r, e2) => (match lookR e2 (frzR r) with
      | some d => (match itD d with
        | some es => nlPut i j es e2
        | none => none)
      | none => none)
    | none => none)
  | none => none
theorem nlPut_ok {K : PySem.W.Frag} {m : Option Addr} {E : Ef} {G0 G H : Hp} {e : Ev} {σ : St} {i j : Nat} {es : List PyData} {fl : Fl} {D : Ends} {ws : List V} {p z : Addr} {qs : List Addr} (R : Rz K m E G0 G e σ H) (q : nlPut i j es e = some fl) (hd : DpAll K G ws es)
    (h1 : σ[i]? = some (some (.ref p))) (h2 : E.h p = some (.lst (qs.map V.ref))) (h3 : qs[j]? = some z) (P : PoSN K m E.b G0 G D fl) : ∃ us, H z = some (.lst us) ∧ us.length + ws.length ≤ sizeLine ∧ D.nx σ (upd H z (.lst (us ++ ws))) := by
  unfold nlPut at q
  split at q
  · rename_i dss h4
    split at q
    · rename_i ds h5
      by_cases h6 : (oneNl i e && (okS [i] e && okLen (ds.length + es.length))) = true
      · rw [if_pos h6] at q
        rw [Bool.and_eq_true, Bool.and_eq_true] at h6
        cases q
        have base := fun (w2 : List V) (d2 : List PyData) (hw : DpAll K G w2 d2) => R.r.putN (ws := w2) (ds' := d2) h4 h6.1 h5 hw
        obtain ⟨z1, us, ⟨p1, qs1, a1, a2, a3⟩, a4, a5, _⟩ := base [] [] .nil
        rw [h1] at a1
        cases a1
        rw [h2] at a2
        injection a2 with a2
        injection a2 with a2
        have eq := refs_inj a2
        subst eq
        rw [h3] at a3
        cases a3
        obtain ⟨z2, us2, ⟨p2, qs2, b1, b2, b3⟩, b4, b5, E', eb, R'⟩ := base (us ++ ws) (ds ++ es) (dpAll_app a5 hd)
        rw [h1] at b1
        cases b1
        rw [h2] at b2
        injection b2 with b2
        injection b2 with b2
        have eq := refs_inj b2
        subst eq
        rw [h3] at b3
        cases b3
        refine ⟨us, a4, ?_, P E' G σ _ eb (Same.refl _) (R.set h6.2.1 R')⟩
        rw [dpAll_len a5, dpAll_len hd]
        exact okLen_ok h6.2.2
      · rw [if_neg h6] at q
        cases q
    · cases q
  · cases q
theorem nlK_ok {e e1 : Ev} {i j : Nat} (h : nlK i fk e = some (j, e1)) : isNl e[i]? = true ∧ ∃ k dss x, fk e = some (.im (.int k), e1) ∧ e1[i]? = some (some (.nl dss)) ∧ ixN dss.length k = some j ∧ dss[j]? = some x := by
  unfold nlK at h
  by_cases h0 : isNl e[i]? = true
  · rw [if_pos h0] at h
    split at h
    · rename_i k e2 h1
      split at h
      · rename_i dss h2
        split at h
        · rename_i j2 h3
          cases h
          exact ⟨h0, k, dss, dss[j]'(ixN_lt h3), h1, h2, h3, List.getElem?_eq_getElem _⟩
        · cases h
      · cases h
    · cases h
  · rw [if_neg h0] at h
    cases h
/-- the receiver -/
theorem recv_ok {tk : TE} (kk : ∀ (m : Option Addr) (E : Ef) (G0 G : Hp) (e : Ev) (σ : St) (H : Hp) (r : Rs) (e' : Ev) (Q : VK), Rl X.K m E G0 G e σ H → fk e = some (r, e') → Po X.K m E G0 σ G H e r e' Q → tk σ H Q)
    {m : Option Addr} {E : Ef} {G0 G H : Hp} {e e1 : Ev} {σ : St} {i j : Nat} {Q : VK} (R : Rl X.K m E G0 G e σ H) (h : nlK i fk e = some (j, e1))
    (P : ∀ (p z : Addr) (qs : List Addr) (G1 H1 : Hp), σ[i]? = some (some (.ref p)) → E.h p = some (.lst (qs.map V.ref)) → qs[j]? = some z → (∃ ws, SqL X.K H1 z ws) → Rl X.K m E G0 G1 e1 σ H1 → Stp σ G H e G1 H1 e1 → Q (.ref z) H1) : tOp (rIxL X.K) (tVar i) tk σ H Q := by
  obtain ⟨h0, k, dss, x, h1, h2, h3, h4⟩ := nlK_ok h
  obtain ⟨dss0, h00⟩ := isNl_iff h0
  obtain ⟨p0, qs0, c1, c2, _, _⟩ := R.nlP h00
  refine ⟨.ref p0, c1, kk m E G0 G e σ H _ e1 _ R h1 fun v G1 H1 R1 S1 V1 N1 => ?_⟩
  cases V1
  obtain ⟨p, qs, z, a1, a2, a3, a4, a5, a6⟩ := R1.nlAt h2 h4
  rw [c1] at a1
  cases a1
  exact ⟨p0, qs.map V.ref, k, .ref z, rfl, rfl, .inl (.inl a3), atI_of (j := j) (by rw [List.length_map, a4]; exact h3) (by rw [List.getElem?_map, a5]; rfl), P p0 z qs G1 H1 c1 a2 a5 a6 R1 S1⟩
section
variable {x : Str} {np sp apos cpos : Pos}
theorem sdn_nap (i : Nat) (hk : ED X b fk) (ha : ED X a fa) (hN : X.N[i]? = some x := by rfl)
    (hv : Vis X.env.scope x := by first | exact Or.inl rfl | exact Or.inr (Or.inl rfl) | exact Or.inr (Or.inr rfl)) (hd : (x == ("__debug__" : Str)) = false := by decide) (hcd : (x == ("__classdict__" : Str)) = false := by decide)
    (hix : PlainIx b := by intros; intro _ _; with_unfolding_all rfl)
    (hbase : attributeBase (.Subscript (.Name x np) b sp) "append" X.env (eval (.Subscript (.Name x np) b sp) X.env) = eval (.Subscript (.Name x np) b sp) X.env := by rfl)
    (hfew : ((backTo cpos (starEach [a] X.env)).all (fun x => !x.1) && (backToKw cpos (keywordEach [] X.env)).all (fun x => x.1.isSome)
      && decide (([a] : List Expr).length + ([] : List Keyword).length + (if ([] : List Keyword).isEmpty then 0 else 1) < 30)) = true := by rfl)
    (hline : (apos.endLine == cpos.line) = true := by rfl) (hs : starEach [a] X.env = (false, eval a X.env) :: starEach [] X.env := by rfl) (hplain : (backTo cpos (starEach [] X.env)).any (·.1) = false := by rfl)
    (hsw : swapsWith (.Call (.Attribute (.Subscript (.Name x np) b sp) "append" apos) [a] [] cpos) none pos.line X.env = pure false := by rfl) :
    SDN X (.Expr (.Call (.Attribute (.Subscript (.Name x np) b sp) "append" apos) [a] [] cpos) pos) (s_nap i fk fa) := by
  obtain ⟨tk, pk, kk⟩ := hk
  obtain ⟨ta, pa, ka⟩ := ha
  refine ⟨_, ps_expr (pe_bm PySem.F.plainAttrs_list PySem.F.slot_list_append PySem.F.type_list_append mt_append (pe_ix ix_list (pe_var hN hv hd hcd) pk hix) (pa_cons pa pa_nil hs) hbase hfew hline hs hplain) hsw, fun m E G0 G e σ H fl D R q P => ?_⟩
  unfold s_nap at q
  split at q
  · rename_i j e1 h1
    split at q
    · rename_i r e2 h2
      split at q
      · rename_i d h3
        refine recv_ok kk R.r h1 fun p z qs G1 H1 a1 a2 a3 a4 R1 S1 => ⟨.inl ⟨rfl, a4⟩, ?_⟩
        refine ka m E G0 G1 e1 σ H1 _ e2 _ R1 h2 fun v G2 H2 R2 S2 V2 N2 => ?_
        obtain ⟨G3, R3, S3, s3, V3⟩ := R2.freeze S2 V2 N2
        rw [frz_im h3] at V3
        have Rx := R.exp R3 (S1.trans S3)
        obtain ⟨us, b1, b2, b3⟩ := nlPut_ok Rx q (.cons V3 .nil) a1 a2 a3 (P.aft (S1.gg.trans S3.gg))
        have b4 : us.length < sizeLine := by
          have : ([v] : List V).length = 1 := rfl
          omega
        exact ⟨z, us, v, rfl, rfl, b1, b4, b3⟩
      · cases q
    · cases q
  · cases q
theorem sdn_nex (i : Nat) (hk : ED X b fk) (ha : ED X a fa) (hN : X.N[i]? = some x := by rfl)
    (hv : Vis X.env.scope x := by first | exact Or.inl rfl | exact Or.inr (Or.inl rfl) | exact Or.inr (Or.inr rfl)) (hd : (x == ("__debug__" : Str)) = false := by decide) (hcd : (x == ("__classdict__" : Str)) = false := by decide)
    (hix : PlainIx b := by intros; intro _ _; with_unfolding_all rfl)
    (hbase : attributeBase (.Subscript (.Name x np) b sp) "extend" X.env (eval (.Subscript (.Name x np) b sp) X.env) = eval (.Subscript (.Name x np) b sp) X.env := by rfl)
    (hfew : ((backTo cpos (starEach [a] X.env)).all (fun x => !x.1) && (backToKw cpos (keywordEach [] X.env)).all (fun x => x.1.isSome)
      && decide (([a] : List Expr).length + ([] : List Keyword).length + (if ([] : List Keyword).isEmpty then 0 else 1) < 30)) = true := by rfl)
    (hline : (apos.endLine == cpos.line) = true := by rfl) (hs : starEach [a] X.env = (false, eval a X.env) :: starEach [] X.env := by rfl) (hplain : (backTo cpos (starEach [] X.env)).any (·.1) = false := by rfl)
    (hsw : swapsWith (.Call (.Attribute (.Subscript (.Name x np) b sp) "extend" apos) [a] [] cpos) none pos.line X.env = pure false := by rfl) :
    SDN X (.Expr (.Call (.Attribute (.Subscript (.Name x np) b sp) "extend" apos) [a] [] cpos) pos) (s_nex i fk fa) := by
  obtain ⟨tk, pk, kk⟩ := hk
  obtain ⟨ta, pa, ka⟩ := ha
  refine ⟨_, ps_expr (pe_bm PySem.F.plainAttrs_list PySem.F.slot_list_extend PySem.F.type_list_extend mt_extS (pe_ix ix_list (pe_var hN hv hd hcd) pk hix) (pa_cons pa pa_nil hs) hbase hfew hline hs hplain) hsw, fun m E G0 G e σ H fl D R q P => ?_⟩
  unfold s_nex at q
  split at q
  · rename_i j e1 h1
    split at q
    · rename_i r e2 h2
      split at q
      · rename_i d h3
        split at q
        · rename_i es h4
          refine recv_ok kk R.r h1 fun p z qs G1 H1 a1 a2 a3 a4 R1 S1 => ⟨.inl ⟨rfl, a4⟩, ?_⟩
          refine ka m E G0 G1 e1 σ H1 _ e2 _ R1 h2 fun v G2 H2 R2 S2 V2 N2 => ?_
          obtain ⟨G3, R3, S3, s3, V3⟩ := R2.freeze S2 V2 N2
          have lv := R3.look V3 h3
          have Rx := R.exp R3 (S1.trans S3)
          have P' := P.aft (S1.gg.trans S3.gg)
          cases d with
          | list ds =>
            cases h4
            rcases lv with lv | ⟨p2, ws, ds2, rfl, y1, y2, y3⟩
            · cases lv with
              | lst y1 y2 =>
                obtain ⟨us, b1, b2, b3⟩ := nlPut_ok Rx q y2 a1 a2 a3 P'
                exact ⟨z, _, us, _, rfl, rfl, b1, .inl (R3.gh.seq y1), b2, b3⟩
            · cases y1
              obtain ⟨us, b1, b2, b3⟩ := nlPut_ok Rx q y3 a1 a2 a3 P'
              exact ⟨z, p2, us, ws, rfl, rfl, b1, .inl (.inl (.inl y2)), b2, b3⟩
          | tuple ds =>
            cases h4
            rcases lv with lv | ⟨p2, ws, ds2, rfl, y1, y2, y3⟩
            · cases lv with
              | tup y1 y2 =>
                obtain ⟨us, b1, b2, b3⟩ := nlPut_ok Rx q y2 a1 a2 a3 P'
                exact ⟨z, _, us, _, rfl, rfl, b1, .inr (seqT R3.gh y1), b2, b3⟩
            · cases y1
          | _ => cases h4
        · cases q
      · cases q
    · cases q
  · cases q
end
end
end DL
namespace DL
open L2 PySem PySem.Spec PySem.W PyProof.Rows

/-! ### x = [[] for y in it] -/
def s_nw (i : Nat) (fi : Fi) (j : Nat) : Fs := fun e => match fi e with
  | some (ds, e1) => if (okS [i] e1 && okLen ds.length) = true then some (.nx (e1.set i (some (.nl (List.replicate ds.length (false, [])))))) else none
  | none => none
section
variable {X : Cx} {fi : Fi} {wi : TI}
theorem new_ok {i j : Nat} (k : ∀ (m : Option Addr) (E : Ef) (G0 G : Hp) (e : Ev) (σ : St) (H : Hp) (ds : List PyData) (e' : Ev) (Q : It → Hp → Prop),
      Rl X.K m E G0 G e σ H → fi e = some (ds, e') → (∀ J G' H', Rl X.K m E G0 G' e' σ H' → Stp σ G H e G' H' e' → WalkD X.K G' J ds → Q J H') → wi σ H Q)
    {m : Option Addr} {E : Ef} {G0 G H : Hp} {e : Ev} {σ : St} {fl : Fl} {D : Ends} (R : Rz X.K m E G0 G e σ H) (q : s_nw i fi j e = some fl) (P : PoSN X.K m E.b G0 G D fl) :
    tAsg (tLc wi (gName j) tYes (tLst tNil) [j]) (gName i) D σ H := by
  unfold s_nw at q
  split at q
  · rename_i ds e1 h1
    by_cases h2 : (okS [i] e1 && okLen ds.length) = true
    · rw [if_pos h2] at q
      rw [Bool.and_eq_true] at h2
      cases q
      have hsz := okLen_ok h2.2
      refine k m E G0 G e σ H ds e1 _ R.r h1 fun J G1 H1 R1 S1 W1 Dd hD => ?_
      let W : Nat → Nat → Hp → Prop := fun n mm H => mm = ds.length - n ∧ n ≤ ds.length ∧ ∃ qs : List Addr, qs.length = n ∧ (Dd :: qs).Nodup ∧ H Dd = some (.lst (qs.map V.ref)) ∧ (∀ q ∈ qs, H1 q = none ∧ H q = some (.lst [])) ∧ Same H1 H
      refine ⟨W, ⟨ds.length, rfl, Nat.zero_le _, [], rfl, by simp, upd_same, fun _ z => (by cases z), same_new hD⟩, ?_⟩
      rintro n mm H2 ⟨rfl, hn, qs, lq, nd, hH, hq, sm⟩
      obtain ⟨wk, stop⟩ := W1 G1 H2 (Same.refl _) (R1.gh.trans sm)
      by_cases hlt : n < ds.length
      · obtain ⟨go, yl⟩ := wk n ds[n] (List.getElem?_eq_getElem hlt)
        refine .inr ⟨go, W (n + 1) (ds.length - (n + 1)), fun H' h => ⟨_, by omega, h⟩, fun x H3 y => ?_⟩
        have s3 : Same H2 H3 := by
          rcases yl x H3 y with ⟨rfl, _⟩ | ⟨T, us, es, _, nT, rfl, _, _⟩
          · exact Same.refl _
          · exact same_new nT
        show L2.wipe ((L2.wipe σ [j]).set j (some x)) [j] = L2.wipe σ [j] ∧ _
        refine ⟨?_, ?_⟩
        · have z := wipe_same (vs := [j]) (σ' := (L2.wipe σ [j]).set j (some x)) (σ := L2.wipe σ [j]) (fun l hl => List.getElem?_set_ne fun z => hl (List.mem_singleton.mpr z.symm)) (List.length_set ..)
          rw [wipe_wipe] at z
          exact z
        unfold tYes
        dsimp only
        rw [if_pos rfl]
        refine ⟨Nat.zero_le _, fun p hp => ?_⟩
        have hp2 : H2 p = none := s3.free hp
        have hp1 : H1 p = none := sm.free hp2
        have np : p ≠ Dd := fun z => by rw [z, hH] at hp2; cases hp2
        have nq : p ∉ qs := fun z => by rw [(hq p z).2] at hp2; cases hp2
        refine ⟨qs.map V.ref, ?_, by rw [List.length_map]; omega, rfl, hlt, qs ++ [p], by rw [List.length_append, lq]; rfl, ?_, ?_, fun q hq2 => ?_, fun a o z => ?_⟩
        · rw [upd_ne fun z => np z.symm]
          exact s3 _ _ hH
        · rw [List.nodup_cons] at nd ⊢
          refine ⟨fun z => ?_, ?_⟩
          · rcases List.mem_append.mp z with z | z
            · exact nd.1 z
            · exact np (List.mem_singleton.mp z).symm
          · rw [List.nodup_append]
            refine ⟨nd.2, by simp, fun a ha b hb y => ?_⟩
            rw [List.mem_singleton] at hb
            exact nq (by rw [← hb, ← y]; exact ha)
        · rw [upd_same, List.map_append]
          rfl
        · rcases List.mem_append.mp hq2 with z | z
          · obtain ⟨z1, z2⟩ := hq q z
            have n1 : q ≠ Dd := fun y => (List.nodup_cons.mp nd).1 (by rw [← y]; exact z)
            have n2 : q ≠ p := fun y => nq (by rw [← y]; exact z)
            exact ⟨z1, by rw [upd_ne n1, upd_ne n2]; exact s3 _ _ z2⟩
          · rw [List.mem_singleton.mp z]
            exact ⟨hp1, by rw [upd_ne np, upd_same]⟩
        · have n1 : a ≠ Dd := ne_of_none z hD
          have n2 : a ≠ p := ne_of_none z hp1
          rw [upd_ne n1, upd_ne n2]
          exact s3 _ _ (sm a o z)
      · have hn2 : n = ds.length := by omega
        subst hn2
        refine .inl ⟨stop, ?_⟩
        have frs : ∀ a, H1 a = none → E.b a = none := fun a z => by
          obtain ⟨_, z2, _, _⟩ := R1.fresh z
          cases y : E.b a with
          | none => rfl
          | some o => rw [E.sub a o y] at z2; cases z2
        have new : ∀ a, (a = Dd ∨ a ∈ qs) → H1 a = none := fun a z => by
          rcases z with z | z
          · rw [z]
            exact hD
          · exact (hq a z).1
        have g0 : ∀ a, H1 a = none → G0 a = none := fun a z => R1.gg.free (R1.gh.free z)
        have Ra := R1.add (N := fun a => a = Dd ∨ a ∈ qs) (hn := fun a z => frs a (new a z)) sm new
        have Rb := (R.exp R1 S1)
        have nl : NlF X.K m (E.add H2 (fun a => a = Dd ∨ a ∈ qs) (fun a z => frs a (new a z))) G0 G1 (some (some (.ref Dd))) (List.replicate ds.length (false, [])) := by
          refine ⟨Dd, qs, rfl, ?_, frs Dd hD, g0 Dd hD, (R1.fresh hD).2.2.2, by rw [List.length_replicate]; exact lq, nd, fun l b d2 r a1 a2 => ?_⟩
          · show (if Dd = Dd ∨ Dd ∈ qs then H2 Dd else E.h Dd) = _
            rw [if_pos (.inl rfl)]
            exact hH
          · rw [List.getElem?_replicate] at a1
            split at a1
            · cases a1
              have rm := List.mem_of_getElem? a2
              obtain ⟨r1, r2⟩ := hq r rm
              refine ⟨frs r r1, g0 r r1, (R1.fresh r1).2.2.2, [], ?_, .nil⟩
              show (if r = Dd ∨ r ∈ qs then H2 r else E.h r) = _
              rw [if_pos (.inr rm)]
              exact r2
            · cases a1
        refine P (E.add H2 (fun a => a = Dd ∨ a ∈ qs) (fun a z => frs a (new a z))) G1 _ H2 rfl S1.gg ⟨Ra.setN nl, fun p z => ?_⟩
        obtain ⟨z1, z2⟩ := Rb.z p z
        have n0 : i ≠ 0 := fun y => okS_no h2.1 z1 (by rw [y]; exact List.mem_singleton.mpr rfl)
        rw [List.getElem?_set_ne n0, List.getElem?_set_ne n0]
        exact ⟨z1, z2⟩
    · rw [if_neg h2] at q
      cases q
  · cases q
variable {tg it : Expr} {scope : Scope} {own : List (Str × Nat)} {lpos spos vpos ipos : Pos} {x y : Str} {pos' : Pos}
/-- written on one line -/
theorem sdn_nw (i j : Nat) (hc : X.calm = true) (hN : X.N.Nodup) (hi : ID X (.Name y vpos) it fi) (ok : blkC X.N X.env.scope scope [(y, j)] = true)
    (hg : ∀ (s : Shared) (H : Hp) (C : Addr) (cl : List (Str × Addr)) (fp : List Addr), PG (X.blk s H scope (compEnvC scope cl C X.env) fp) (.Name y vpos) (gName j)) (hs : ∀ x, foldedSetIterable it X.env x = pure x := by intro _; rfl)
    (hy : X.N[i]? = some x := by rfl) (hyl : X.env.scope.names.lookup x = some .local := by rfl) (hsw : swapsWith (.ListComp (.List [] lpos) [⟨.Name y vpos, it, [], 0⟩] scope ipos) (some (.Name x pos')) spos.line X.env = pure true := by rfl) :
    SDN X (.Assign [.Name x pos'] (.ListComp (.List [] lpos) [⟨.Name y vpos, it, [], 0⟩] scope ipos) spos) (s_nw i fi j) := by
  obtain ⟨wi, pi, k⟩ := hi
  exact ⟨_, ps_setLc hc hN hy hyl hsw pi (blkOk_by ok) hg (fun s H C cl fp => pts_nil) (fun s H C cl fp => pe_lst pa_nil) hs, fun m E G0 G e σ H fl D R q P => new_ok k R q P⟩
/-- .. on two lines -/
theorem sdn_nw2 (i j : Nat) (hc : X.calm = true) (hN : X.N.Nodup) (hi : ID X (.Name y vpos) it fi) (ok : blkC X.N X.env.scope scope [(y, j)] = true)
    (hg : ∀ (s : Shared) (H : Hp) (C : Addr) (cl : List (Str × Addr)) (fp : List Addr), PG (X.blk s H scope (compEnvC scope cl C X.env) fp) (.Name y vpos) (gName j)) (hs : ∀ x, foldedSetIterable it X.env x = pure x := by intro _; rfl)
    (hy : X.N[i]? = some x := by rfl) (hx : Loc X.env.scope x := by first | exact .inl rfl | exact .inr rfl) (hsw : swapsWith (.ListComp (.List [] lpos) [⟨.Name y vpos, it, [], 0⟩] scope ipos) (some (.Name x pos')) spos.line X.env = pure false := by rfl)
    (hf : X.fn x = true ∨ X.env.scope.names.lookup x = some .local := by first | exact .inl rfl | exact .inr rfl | assumption) :
    SDN X (.Assign [.Name x pos'] (.ListComp (.List [] lpos) [⟨.Name y vpos, it, [], 0⟩] scope ipos) spos) (s_nw i fi j) := by
  obtain ⟨wi, pi, k⟩ := hi
  exact ⟨_, ps_set hN hy hx (pe_lc hc hN pi (blkOk_by ok) hg (fun s H C cl fp => pts_nil) (fun s H C cl fp => pe_lst pa_nil) hs) hsw hf, fun m E G0 G e σ H fl D R q P => new_ok k R q P⟩
end
/-! ### a def with such a list -/
section
variable {P : Program} {w : World} {K : PySem.W.Frag} {mg : Str → Option Value} {base : Heap} {x qual : Str} {params : Arguments} {body : List Stmt} {scope : Scope} {dvs : List V} {kws : List (Str × V)} {f : Addr} {fd : FuncData} {N ps : List Str} {k n nl : Nat} {g : Fs}
theorem fnDN (F : FunD K x qual params body scope dvs kws f fd) (S : FnScope N ps scope) (hp : ps.length = n) (hl : n + nl = N.length)
    (hb : ∀ (cdv : Value) (A : Around) (outer : List Env) (s : Shared) (H : Hp) (E : XK), Room k (A.deeper (envOfC qual scope s.heap.objs.size f cdv)) → SsDN (cxOf CX0 P w K mg base N qual scope f cdv A outer s H E).nox body g) :
    FnOk P w K mg base CX0 (k + 1) f fd ps (spD K n (runF n nl g)) := by
  refine F.ok S (fun vs H Q E h => ?_) fun cdv A outer s H vs Q E hr h => ?_
  · obtain ⟨_, _, _, _, _, h, _⟩ := h
    rw [h, hp]
  · obtain ⟨t, pt, kt⟩ := hb cdv A outer s H E hr
    obtain ⟨G, ds, r, s1, hd, hv, hr2, hQ⟩ := h
    refine ⟨t, pt.nox, ?_⟩
    have Rz0 : Rz K none (Ef.of H) G G (env0 ds nl) (L2.start N vs) H := rz_start s1 hd (by omega)
    unfold runF at hr2
    rw [if_pos (by rw [← dpAll_len hd]; exact hv)] at hr2
    have base2 : ∀ {E : Ef} {G' H' : Hp} {e' : Ev} {σ' : St}, E.b = H → Rz K none E G G' e' σ' H' → Same H H' ∧ (∀ a, G a = none → H a ≠ none → G' a = none) ∧ ∀ a, E.h a = none → H a = none := fun {E G' H' e' σ'} eb R' => by
      have sub : ∀ a o, H a = some o → E.h a = some o := fun a o z => E.sub a o (by rw [eb]; exact z)
      refine ⟨fun a o z => R'.r.eh a o (sub a o z) (by simp), fun a z1 z2 => R'.r.nw a z1 ?_, fun a z => ?_⟩
      · cases y : H a with
        | none => exact absurd y z2
        | some o => rw [sub a o y]; simp
      · cases y : H a with
        | none => rfl
        | some o => rw [sub a o y] at z; cases z
    split at hr2
    · rename_i r' e' h1
      refine kt none (Ef.of H) G G _ _ H _ _ Rz0 h1 fun E v G' σ' H' eb s2 R' V' => ?_
      obtain ⟨hh, nw, fr⟩ := base2 eb R'
      refine hQ v G' H' s2 R'.r.gh hh nw ?_
      unfold finR at hr2
      cases r' with
      | im d =>
        cases hr2
        exact V'
      | ac d =>
        cases hr2
        obtain ⟨p, ws, a1, a2, a3, a4, a5, _⟩ := V'
        exact ⟨p, ws, a1, fr p a2, a3, a4, a5⟩
      | br i =>
        dsimp only at hr2
        split at hr2
        · rename_i d h2
          cases hr2
          obtain ⟨d', b1, b2⟩ := V'
          obtain ⟨p, ws, a1, a2, a3, a4, a5⟩ := R'.r.ac i d h2
          rw [a1] at b2
          cases b2
          have a6 : E.h p = none := by
            rcases a5 with a5 | a5
            · exact a5
            · cases a5.1
          exact ⟨p, ws, rfl, fr p a6, a2, a3, a4⟩
        · cases hr2
    · rename_i e' h1
      cases hr2
      refine kt none (Ef.of H) G G _ _ H _ _ Rz0 h1 fun E G' σ' H' eb s2 R' => ?_
      obtain ⟨hh, nw, fr⟩ := base2 eb R'
      exact hQ .non G' H' s2 R'.r.gh hh nw .non
    · cases hr2
end
end DL
namespace DL
open L2 PySem PySem.Spec PySem.W PyProof.Rows

/-! ### max(xs, default=i), ints -/
def maxO (i : Int) : List Int → Int
  | [] => i
  | n :: ns => maxI (n :: ns)
def rMaxDf (K : PySem.W.Frag) (i : Int) : List V → List V → Hp → VK → Prop := fun vs zs H Q => ∃ (a : Addr) (ns : List Int), vs = [V.ref a] ∧ zs = [.int i] ∧ SqL K H a (ns.map V.int) ∧ Q (.int (maxO i ns)) H
theorem cr_maxDf {X : Cx} {i : Int} (hc : X.calm = true) (hu : X.A.units + 64 < cLine) : CallRK X (.builtin "max") [Str.ofString "default"] (rMaxDf X.K i) := by
  rintro pins s σ H vs zs us ws Q I r rz ⟨a, ns, rfl, rfl, hs, q⟩
  obtain ⟨its, rv, pl, _⟩ := I.list hs
  rw [Vals.ref1 r]
  obtain ⟨w1, rfl, e1⟩ := vals1 rz
  obtain ⟨t, rfl⟩ := e1
  obtain ⟨as, hr⟩ := Dp.readsAll I _ _ its (dpAll_ints ns) rv
  refine max_list_default (xs := ns.map PyData.int) (as := as) (I.ok.hd hc) pl.isList hr (alikeAll_ints ns) (by
    rw [depth_ints ns]
    omega) (fun e g tk hk => ?_) fun y ys j v g tk bs e _ rd hk => ?_
  · have e2 := List.map_eq_nil_iff.mp e
    subst e2
    exact ⟨.int _, H, I.kept hk, ⟨t, rfl⟩, q⟩
  · cases ns with
    | nil => cases e
    | cons n ns =>
      rw [List.map_cons] at e
      injection e with e1 e2
      subst e1 e2
      rw [maxD_ints, maxI_fold] at rd
      cases rd with
      | int _ t2 => exact ⟨.int _, H, I.kept hk, ⟨t2, rfl⟩, q⟩
def x_maxDf (i : Int) (fa : Fa) : Fe := x_cb (c_intsL fun ns => some (.im (.int (maxO i ns)))) fa
theorem ed_maxDf {X : Cx} {i : Int} {a : Expr} {fa : Fa} {pos p kp : Pos} {j : Nat} {cp : Pos} (h : AD X [a] fa) (hm : X.mg "max" = none) (hc : X.calm = true) (hu : X.A.units + 64 < cLine) (hg : Gl X "max" := by rfl)
    (he : backTo pos (starEach [a] X.env) = (false, eval a X.env) :: backTo pos (starEach [] X.env) := by rfl) (hpl : (backTo pos (starEach [a] X.env)).any (·.1) = false := by rfl)
    (hall : (backToKw pos (keywordEach [⟨some (Str.ofString "default"), .Constant (.int i) j cp, kp⟩] X.env)).all (·.1.isSome) = true := by rfl) (hnone : (backToKw pos (keywordEach [⟨some (Str.ofString "default"), .Constant (.int i) j cp, kp⟩] X.env)).any (·.1.isNone) = false := by rfl)
    (hks : (backToKw pos (keywordEach [⟨some (Str.ofString "default"), .Constant (.int i) j cp, kp⟩] X.env)).filterMap (·.1) = [Str.ofString "default"] := by rfl) :
    ED X (.Call (.Name "max" p) [a] [⟨some (Str.ofString "default"), .Constant (.int i) j cp, kp⟩] pos) (x_maxDf i fa) := by
  obtain ⟨t, pa, k⟩ := h
  refine ⟨_, pe_callBK (cr_maxDf (i := i) hc hu) hg hm (by decide +kernel) pa (pk_cons pe_int pk_nil) (by decide) (by decide) he hpl hall hnone hks, fun m E G0 G e σ H r e' Q R q P => ?_⟩
  unfold x_maxDf x_cb at q
  cases h1 : argsD fa e with
  | none => simp only [h1] at q; cases q
  | some z =>
    obtain ⟨ds, e1⟩ := z
    simp only [h1] at q
    cases h2 : c_intsL (fun ns => some (.im (.int (maxO i ns)))) ds with
    | none => simp only [h2] at q; cases q
    | some r2 =>
      simp only [h2, Option.some.injEq, Prod.mk.injEq] at q
      obtain ⟨rfl, rfl⟩ := q
      obtain ⟨rs, q1, q2⟩ := argsD_ok h1
      obtain ⟨ns, rfl, h3⟩ := intsL_ok h2
      cases h3
      refine k m E G0 G e σ H rs e1 _ R q1 fun vs G1 H1 R1 S1 V1 => ?_
      obtain ⟨p, rfl, s1⟩ := lv_ints R1.gh (R1.lookAll V1 q2)
      exact ⟨p, ns, rfl, rfl, s1, P _ _ _ R1 S1 (.int _) True.intro⟩
end DL
namespace DL
open L2 PySem PySem.Spec PySem.W PyProof.Rows

/-! ### <, <=, >, >= of alike data -/
def isNoneD : PyData → Bool
  | .none => true
  | _ => false
theorem notNone {d : PyData} (h : (!isNoneD d) = true) : d ≠ .none := fun z => by
  rw [z] at h
  cases h
def okOrd (a b : PyData) : Bool := alike a b && (!isNoneD a && decide (a.depth ≤ 64))
def d_ord (f : PyData → PyData → Bool) (a b : PyData) : Option PyData := if okOrd a b = true then some (.bool (f a b)) else none
def rOrd (K : PySem.W.Frag) (f : PyData → PyData → Bool) : R2 := fun x y H Q => ∃ a b, Dp K H x a ∧ Dp K H y b ∧ okOrd a b = true ∧ Q (.bl (f a b)) H
def q_lt : PyData → PyData → Option Rs := orF p_lt fun a b => (d_ord (fun a b => dataLt a b) a b).map Rs.im
def q_gt : PyData → PyData → Option Rs := orF p_gt fun a b => (d_ord (fun a b => dataLt b a) a b).map Rs.im
def q_le : PyData → PyData → Option Rs := orF p_le fun a b => (d_ord (fun a b => !dataLt b a) a b).map Rs.im
def q_ge : PyData → PyData → Option Rs := orF p_ge fun a b => (d_ord (fun a b => !dataLt a b) a b).map Rs.im
theorem vb_ord {K : PySem.W.Frag} {f : PyData → PyData → Bool} : VB K (rOrd K f) (fun a b => (d_ord f a b).map Rs.im) := VB.pure fun G H x y dx dy d Q s lx ly q P => by
  unfold d_ord at q
  by_cases z : okOrd dx dy = true
  · rw [if_pos z] at q
    cases q
    exact ⟨dx, dy, lx.dp s, ly.dp s, z, P _ (.bl _)⟩
  · rw [if_neg z] at q
    cases q
section
variable {X : Cx}
theorem ord_ok {a b : PyData} (h : okOrd a b = true) : alike a b = true ∧ a ≠ .none ∧ a.depth ≤ 64 := by
  unfold okOrd at h
  rw [Bool.and_eq_true, Bool.and_eq_true] at h
  exact ⟨h.1, notNone h.2.1, of_decide_eq_true h.2.2⟩
theorem op_ord {op : CmpOp} {f : PyData → PyData → Bool} (hu : X.A.units + 64 < cLine)
    (k : ∀ {s : Shared} {a b : Value} {da db : PyData} {as bs : List Addr} {Q : Value → Shared → Prop}, Reads s.heap a da as → Reads s.heap b db bs → alike da db = true → da ≠ .none → X.A.units + min da.depth db.depth < cLine → Q (.bool (f da db)) s → wpAny (model X.prog X.w) X.A (compareOp op a b) Q X.xe s) :
    OpR X (compareOp op) (rOrd X.K f) := by
  rintro pins s σ H x y v u Q I rx ry ⟨a, b, hx, hy, ok, q⟩
  obtain ⟨as, ra⟩ := Dp.reads I a x v hx rx
  obtain ⟨bs, rb⟩ := Dp.reads I b y u hy ry
  obtain ⟨o1, o2, o3⟩ := ord_ok ok
  exact k ra rb o1 o2 (by omega) ⟨.bl _, H, I, rfl, q⟩
theorem vq_lt : VB X.K (fun x y H Q => (rI0 fun i j => .bl (decide (i < j))) x y H Q ∨ rOrd X.K (fun a b => dataLt a b) x y H Q) q_lt := VB.or vb_lt vb_ord
theorem vq_gt : VB X.K (fun x y H Q => (rI0 fun i j => .bl (decide (j < i))) x y H Q ∨ rOrd X.K (fun a b => dataLt b a) x y H Q) q_gt := VB.or vb_gt vb_ord
theorem vq_le : VB X.K (fun x y H Q => (rI0 fun i j => .bl (decide (i ≤ j))) x y H Q ∨ rOrd X.K (fun a b => !dataLt b a) x y H Q) q_le := VB.or vb_le vb_ord
theorem vq_ge : VB X.K (fun x y H Q => (rI0 fun i j => .bl (decide (j ≤ i))) x y H Q ∨ rOrd X.K (fun a b => !dataLt a b) x y H Q) q_ge := VB.or vb_ge vb_ord
theorem oq_lt (hu : X.A.units + 64 < cLine) : OpR X (compareOp .Lt) (fun x y H Q => (rI0 fun i j => .bl (decide (i < j))) x y H Q ∨ rOrd X.K (fun a b => dataLt a b) x y H Q) :=
  OpR.or op_lt (op_ord hu fun ra rb h hn hz q => lt_data ra rb h hn hz q)
theorem oq_gt (hu : X.A.units + 64 < cLine) : OpR X (compareOp .Gt) (fun x y H Q => (rI0 fun i j => .bl (decide (j < i))) x y H Q ∨ rOrd X.K (fun a b => dataLt b a) x y H Q) :=
  OpR.or op_gt (op_ord hu fun ra rb h hn hz q => gt_data ra rb h hn hz q)
theorem oq_le (hu : X.A.units + 64 < cLine) : OpR X (compareOp .LtE) (fun x y H Q => (rI0 fun i j => .bl (decide (i ≤ j))) x y H Q ∨ rOrd X.K (fun a b => !dataLt b a) x y H Q) :=
  OpR.or op_le (op_ord hu fun ra rb h hn hz q => le_data ra rb h hn hz q)
theorem oq_ge (hu : X.A.units + 64 < cLine) : OpR X (compareOp .GtE) (fun x y H Q => (rI0 fun i j => .bl (decide (j ≤ i))) x y H Q ∨ rOrd X.K (fun a b => !dataLt a b) x y H Q) :=
  OpR.or op_ge (op_ord hu fun ra rb h hn hz q => ge_data ra rb h hn hz q)
end
/-! ### min, max of a list of alike data -/
def alikeB (ds : List PyData) : Bool := ds.all fun x => !isNoneD x && ds.all fun y => alike x y
theorem alikeB_ok {ds : List PyData} (h : alikeB ds = true) : AlikeAll ds := by
  refine ⟨fun x hx y hy => ?_, fun x hx => ?_⟩
  · have z := List.all_eq_true.mp h x hx
    rw [Bool.and_eq_true] at z
    exact List.all_eq_true.mp z.2 y hy
  · have z := List.all_eq_true.mp h x hx
    rw [Bool.and_eq_true] at z
    exact notNone z.1
def okMM (ds : List PyData) : Bool := alikeB ds && (PyData.plainAll ds && decide (PyData.depthAll ds ≤ 60))
def c_mmD (f : PyData → List PyData → PyData) : List PyData → Option Rs
  | [.list (d :: ds)] => if okMM (d :: ds) = true then some (.im (f d ds)) else none
  | _ => none
def rMmD (K : PySem.W.Frag) (f : PyData → List PyData → PyData) : List V → Hp → VK → Prop := fun vs H Q => ∃ (G : Hp) (a : Addr) (ws : List V) (d : PyData) (ds : List PyData), Same G H ∧ vs = [V.ref a] ∧ SqL K H a ws ∧ DpAll K G ws (d :: ds) ∧ okMM (d :: ds) = true ∧ ∀ v, Dp K G v (f d ds) → Q v H
theorem vc_mmD {K : PySem.W.Frag} {f : PyData → List PyData → PyData} : VC K (rMmD K f) (c_mmD f) := by
  intro m E G0 G e σ H vs ds rr Q R l q P
  unfold c_mmD at q
  split at q
  · rename_i d ds
    by_cases z : okMM (d :: ds) = true
    · rw [if_pos z] at q
      cases q
      obtain ⟨v, rfl, lv⟩ := lv1 l
      obtain ⟨p, ws, rfl, s1, k⟩ := lv.list R.gh
      exact ⟨G, p, ws, d, ds, R.gh, rfl, s1, k, z, fun v hv => P.now R hv True.intro⟩
    · rw [if_neg z] at q
      cases q
  · cases q
section
variable {X : Cx}
theorem plain_mem {ds : List PyData} (h : PyData.plainAll ds = true) : ∀ d ∈ ds, d.plain = true := by
  induction ds with
  | nil => intro d hd; cases hd
  | cons x ds ih =>
    rw [PyData.plainAll, Bool.and_eq_true] at h
    intro d hd
    rcases List.mem_cons.mp hd with z | z
    · rw [z]
      exact h.1
    · exact ih h.2 d z
theorem fold_mem {α : Type} (c : α → α → Bool) : ∀ (xs : List α) (x : α), xs.foldl (fun a y => if c y a then y else a) x ∈ x :: xs
  | [], x => List.mem_cons_self
  | y :: ys, x => by
    rw [List.foldl_cons]
    have z := fold_mem c ys (if c y x then y else x)
    rcases List.mem_cons.mp z with z | z
    · rw [z]
      by_cases w : c y x = true
      · rw [if_pos w]
        exact List.mem_cons_of_mem _ List.mem_cons_self
      · rw [if_neg w]
        exact List.mem_cons_self
    · exact List.mem_cons_of_mem _ (List.mem_cons_of_mem _ z)
theorem minD_mem (x : PyData) (xs : List PyData) : minD x xs ∈ x :: xs := fold_mem (fun y a => dataLt y a) xs x
theorem maxD_mem (x : PyData) (xs : List PyData) : maxD x xs ∈ x :: xs := fold_mem (fun y a => dataLt a y) xs x
theorem cr_mmD {id : String} {f : PyData → List PyData → PyData} (fm : ∀ x xs, f x xs ∈ x :: xs) (hc : X.calm = true) (hu : X.A.units + 64 < cLine)
    (k : ∀ {s : Shared} {l : Addr} {vs : Array Value} {x : PyData} {xs : List PyData} {as : List Addr} {Q : Value → Shared → Prop}, X.A.handled = none → s.heap.IsList l vs → ReadsAll s.heap vs.toList (x :: xs) as → AlikeAll (x :: xs) → X.A.units + 1 + PyData.depthAll (x :: xs) < cLine →
      (∀ (i : Nat) v h' tk bs, vs[i]? = some v → Reads h' v (f x xs) bs → (∀ b o, s.heap.get? b = some o → h'.get? b = some o) → Q v { s with heap := h', toks := tk }) → wpAny (model X.prog X.w) X.A (call (.builtin id) [.ref l]) Q X.xe s) :
    CallR X (.builtin id) (rMmD X.K f) := by
  rintro pins s σ H vs us Q I r ⟨G, a, ws, d, ds, sg, rfl, hs, hd, ok, q⟩
  obtain ⟨its, rv, pl, _⟩ := I.list hs
  rw [Vals.ref1 r]
  obtain ⟨as, hr⟩ := Dp.readsAll I _ _ its (dpAll_same sg hd) rv
  unfold okMM at ok
  rw [Bool.and_eq_true, Bool.and_eq_true, decide_eq_true_eq] at ok
  refine k (I.ok.hd hc) pl.isList hr (alikeB_ok ok.1) (by omega) fun i v g tk bs hi rd hk => ?_
  have hi2 : its[i]? = some v := by simpa using hi
  have li := (List.getElem?_eq_some_iff.mp hi2).1
  have lw := rv.length
  obtain ⟨x, hx⟩ : ∃ x, ws[i]? = some x := ⟨ws[i]'(by omega), List.getElem?_eq_getElem _⟩
  obtain ⟨v2, hv2, rx⟩ := rv.get hx
  rw [hi2] at hv2
  cases hv2
  obtain ⟨d2, hd2, dp⟩ := dpAll_at hd hx
  obtain ⟨cs, rd2⟩ := Dp.reads I d2 x v (dp_same sg dp) rx
  have p1 := plain_mem ok.2.1 _ (fm d ds)
  have p2 := plain_mem ok.2.1 d2 (List.mem_of_getElem? hd2)
  have e1 := SeqAt.readOf_plain p1 rd
  have e2 := SeqAt.readOf_plain p2 (reads_keeps hk rd2)
  have e3 : f d ds = d2 := e1.symm.trans e2
  exact ⟨x, H, I.kept hk, rx, q x (by rw [e3]; exact dp)⟩
end
def c_minB : List PyData → Option Rs := orC c_minA (c_mmD minD)
def c_maxB : List PyData → Option Rs := orC c_maxA (c_mmD maxD)
theorem vc_minB {K : PySem.W.Frag} : VC K (fun vs H Q => (rMin K vs H Q ∨ rMinT K vs H Q) ∨ rMmD K minD vs H Q) c_minB := VC.or vc_minA vc_mmD
theorem vc_maxB {K : PySem.W.Frag} : VC K (fun vs H Q => (rMax K vs H Q ∨ rMaxT K vs H Q) ∨ rMmD K maxD vs H Q) c_maxB := VC.or vc_maxA vc_mmD
theorem cr_minB {X : Cx} (hc : X.calm = true) (hu : X.A.units + 64 < cLine) : CallR X (.builtin "min") (fun vs H Q => (rMin X.K vs H Q ∨ rMinT X.K vs H Q) ∨ rMmD X.K minD vs H Q) :=
  CallR.or (cr_minA hc hu) (cr_mmD minD_mem hc hu fun a b c d e f => min_list_data a b c d e f)
theorem cr_maxB {X : Cx} (hc : X.calm = true) (hu : X.A.units + 64 < cLine) : CallR X (.builtin "max") (fun vs H Q => (rMax X.K vs H Q ∨ rMaxT X.K vs H Q) ∨ rMmD X.K maxD vs H Q) :=
  CallR.or (cr_maxA hc hu) (cr_mmD maxD_mem hc hu fun a b c d e f => max_list_data a b c d e f)
end DL
namespace DL
open L2 PySem PySem.Spec PySem.W PyProof.Rows

/-! ### reckoning: order, items -/
section
variable {i j : Int}
theorem e_qlt : q_lt (.int i) (.int j) = some (.im (.bool (decide (i < j)))) := rfl
theorem e_qle : q_le (.int i) (.int j) = some (.im (.bool (decide (i ≤ j)))) := rfl
theorem e_qgt : q_gt (.int i) (.int j) = some (.im (.bool (decide (j < i)))) := rfl
theorem e_qge : q_ge (.int i) (.int j) = some (.im (.bool (decide (j ≤ i)))) := rfl
end
/-- an item told by the number of a version -/
def gv {α : Type} [Inhabited α] (l : List α) (v : Nat) : α := l.getD (v - 1) default
theorem gv_get {α : Type} [Inhabited α] {l : List α} {k : Nat} (h : k < l.length) : l[k]? = some (gv l (k + 1)) := by
  unfold gv
  rw [Nat.add_sub_cancel, List.getD_eq_getElem?_getD, List.getElem?_eq_getElem h]
  rfl
section
variable {α : Type} [Inhabited α] {f : α → PyData} {l : List α}
theorem ixv {v : Nat} (h : 1 ≤ v) (h2 : v ≤ l.length) : p_ix (.tuple (l.map f)) (.int ((v : Int) - 1)) = some (.im (f (gv l v))) := by
  rw [show ((v : Int) - 1) = ((v - 1 : Nat) : Int) by omega]
  refine e_ixT ?_
  rw [List.getElem?_map, gv_get (by omega), Nat.sub_add_cancel h]
  rfl
theorem ixvL {v : Nat} (h : 1 ≤ v) (h2 : v ≤ l.length) : p_ix (.list (l.map f)) (.int ((v : Int) - 1)) = some (.im (f (gv l v))) := by
  rw [show ((v : Int) - 1) = ((v - 1 : Nat) : Int) by omega]
  refine e_ixL ?_
  rw [List.getElem?_map, gv_get (by omega), Nat.sub_add_cancel h]
  rfl
theorem ixz {i : Int} (h : 0 ≤ i) (h2 : i < l.length) : p_ix (.tuple (l.map f)) (.int i) = some (.im (f (gv l (i.toNat + 1)))) := by
  obtain ⟨k, rfl⟩ : ∃ k : Nat, i = k := ⟨i.toNat, by omega⟩
  refine e_ixT ?_
  rw [List.getElem?_map, gv_get (by omega)]
  rfl
theorem ixzL {i : Int} (h : 0 ≤ i) (h2 : i < l.length) : p_ix (.list (l.map f)) (.int i) = some (.im (f (gv l (i.toNat + 1)))) := by
  obtain ⟨k, rfl⟩ : ∃ k : Nat, i = k := ⟨i.toNat, by omega⟩
  refine e_ixL ?_
  rw [List.getElem?_map, gv_get (by omega)]
  rfl
theorem gv_mem {v : Nat} (h : 1 ≤ v) (h2 : v ≤ l.length) : gv l v ∈ l := by
  have := gv_get (l := l) (k := v - 1) (by omega)
  rw [Nat.sub_add_cancel h] at this
  exact List.mem_of_getElem? this
end
/-! ### what a statement leads to -/
def wS (f : Fs) (e : Ev) (Q : Fl → Prop) : Prop := ∃ fl, f e = some fl ∧ Q fl
def seqK (g : Fs) (Q : Fl → Prop) : Fl → Prop
  | .nx e => wS g e Q
  | .bk e => Q (.bk e)
  | .ct e => Q (.ct e)
  | .rt r e => Q (.rt r e)
def loopK (J : Ev → Prop) (Q : Fl → Prop) : Fl → Prop
  | .nx e => J e
  | .ct e => J e
  | .bk e => Q (.nx e)
  | .rt r e => Q (.rt r e)
def finK (P : Rs → Prop) : Fl → Prop
  | .rt r e => ∃ r', finR r e = some r' ∧ P r'
  | .nx _ => P (.im .none)
  | _ => False
section
variable {f g : Fs} {e e1 : Ev} {Q : Fl → Prop} {c : Ft} {x : Fe} {r : Rs} {fl : Fl}
theorem wS_of (h : f e = some fl) (q : Q fl) : wS f e Q := ⟨fl, h, q⟩
theorem w_seq (h : wS f e (seqK g Q)) : wS (s_seq f g) e Q := by
  obtain ⟨fl, h1, h2⟩ := h
  cases fl with
  | nx e1 =>
    obtain ⟨fl, h3, h4⟩ := h2
    exact ⟨fl, by rw [r_s_seq, h1]; exact h3, h4⟩
  | bk e => exact ⟨.bk e, by rw [r_s_seq, h1], h2⟩
  | ct e => exact ⟨.ct e, by rw [r_s_seq, h1], h2⟩
  | rt r e => exact ⟨.rt r e, by rw [r_s_seq, h1], h2⟩
theorem w_nx (q : Q (.nx e)) : wS s_nx e Q := ⟨_, rfl, q⟩
theorem w_bk (q : Q (.bk e)) : wS s_bk e Q := ⟨_, rfl, q⟩
theorem w_ct (q : Q (.ct e)) : wS s_ct e Q := ⟨_, rfl, q⟩
theorem w_ret (h : x e = some (r, e1)) (q : Q (.rt r e1)) : wS (s_ret x) e Q := ⟨_, ret h, q⟩
theorem w_drop (h : x e = some (r, e1)) (q : Q (.nx e1)) : wS (s_drop x) e Q := ⟨_, drop h, q⟩
theorem w_setI {i : Nat} {d : PyData} (h : x e = some (.im d, e1)) (ok : okS [i] e1 = true) (q : Q (.nx (e1.set i (some (.im d))))) : wS (s_setF i x) e Q := ⟨_, setF h ok rfl, q⟩
theorem w_setL {i : Nat} {ds : List PyData} (h : x e = some (.ac ds, e1)) (ok : okS [i] e1 = true) (q : Q (.nx (e1.set i (some (.im (.list ds)))))) : wS (s_setF i x) e Q := ⟨_, setF h ok rfl, q⟩
theorem w_setA {i : Nat} {ds : List PyData} (h : x e = some (.ac ds, e1)) (ok : okS [i] e1 = true) (q : Q (.nx (e1.set i (some (.ac ds))))) : wS (s_set i x) e Q := ⟨_, setX h ok rfl, q⟩
theorem w_setB {i : Nat} {d : PyData} (h : x e = some (.im d, e1)) (ok : okS [i] e1 = true) (q : Q (.nx (e1.set i (some (.im d))))) : wS (s_set i x) e Q := ⟨_, setX h ok rfl, q⟩
theorem w_fz {j : Nat} (h : wS f (fzE j e) Q) : wS (s_fz j f) e Q := h
theorem w_nfz {i : Nat} {k : Ev → Option Nat} (h : wS f (fzI i k e) Q) : wS (s_nfz i k f) e Q := h
theorem w_nfa {i : Nat} (h : wS f (fzAll i e) Q) : wS (s_nfa i f) e Q := h
theorem w_if {b : Bool} (h : c e = some (b, e1)) (t : b = true → wS f e1 Q) (n : b = false → wS g e1 Q) : wS (s_if c f g) e Q := by
  cases b with
  | true =>
    obtain ⟨fl, h1, h2⟩ := t rfl
    exact ⟨fl, ifT h h1, h2⟩
  | false =>
    obtain ⟨fl, h1, h2⟩ := n rfl
    exact ⟨fl, ifF h h1, h2⟩
theorem w_ifT (h : c e = some (true, e1)) (t : wS f e1 Q) : wS (s_if c f g) e Q := w_if h (fun _ => t) fun z => by cases z
theorem w_ifF (h : c e = some (false, e1)) (t : wS g e1 Q) : wS (s_if c f g) e Q := w_if h (fun z => by cases z) fun _ => t
theorem wS_mono {Q' : Fl → Prop} (h : wS f e Q) (k : ∀ fl, Q fl → Q' fl) : wS f e Q' := by
  obtain ⟨fl, h1, h2⟩ := h
  exact ⟨fl, h1, k fl h2⟩
end
section
variable {fi : Fi} {γ : PyData → Ev → Option Ev} {S : List Nat} {fb : Fs} {e e1 : Ev} {Q : Fl → Prop}
theorem w_forGo {α : Type} (f : α → PyData) : ∀ (l : List α) (J : List α → Ev → Prop) (e : Ev), J [] e →
    (∀ (pre : List α) (a : α) (post : List α), l = pre ++ a :: post → ∀ e, J pre e → okS S e = true ∧ ∃ e2, γ (f a) e = some e2 ∧ wS fb e2 (loopK (J (pre ++ [a])) Q)) → (∀ e, J l e → Q (.nx e)) →
    ∃ fl, forGo γ S fb (l.map f) e = some fl ∧ Q fl
  | [], J, e, h0, _, hq => ⟨_, rfl, hq e h0⟩
  | a :: l, J, e, h0, h, hq => by
    obtain ⟨h1, e2, h2, fl, h3, h4⟩ := h [] a l rfl e h0
    have rest := w_forGo f l (fun pre e => J (a :: pre) e)
    rw [List.map_cons]
    simp only [forGo, h1, h2, h3, if_true]
    cases fl with
    | nx e3 => exact rest e3 h4 (fun pre b post z e5 j => h (a :: pre) b post (by rw [z]; rfl) e5 j) hq
    | ct e3 => exact rest e3 h4 (fun pre b post z e5 j => h (a :: pre) b post (by rw [z]; rfl) e5 j) hq
    | bk e3 => exact ⟨_, rfl, h4⟩
    | rt r e3 => exact ⟨_, rfl, h4⟩
theorem w_for {α : Type} (l : List α) (f : α → PyData) (J : List α → Ev → Prop) (hi : fi e = some (l.map f, e1)) (h0 : J [] e1)
    (h : ∀ (pre : List α) (a : α) (post : List α), l = pre ++ a :: post → ∀ e, J pre e → okS S e = true ∧ ∃ e2, γ (f a) e = some e2 ∧ wS fb e2 (loopK (J (pre ++ [a])) Q)) (hq : ∀ e, J l e → Q (.nx e)) : wS (s_for fi γ S fb) e Q := by
  obtain ⟨fl, h1, h2⟩ := w_forGo f l J e1 h0 h hq
  exact ⟨fl, sf hi h1, h2⟩
/-- at most k more turns -/
theorem w_while {n : Ev → Nat} {tst : Ft} (J : Nat → Ev → Prop) (k : Nat) (h0 : J k e) (hk : k < n e)
    (h : ∀ k e, J k e → ∃ b e2, tst e = some (b, e2) ∧ (b = false → Q (.nx e2)) ∧ (b = true → ∃ k', k = k' + 1 ∧ wS fb e2 (loopK (J k') Q))) : wS (s_while n tst fb) e Q := by
  have go : ∀ (n k : Nat) (e : Ev), k < n → J k e → ∃ fl, whGo tst fb n e = some fl ∧ Q fl := by
    intro n
    induction n with
    | zero => intro k e hk _; omega
    | succ n ih =>
      intro k e hk j
      obtain ⟨b, e2, h1, h2, h3⟩ := h k e j
      cases b with
      | false => exact ⟨_, by simp only [whGo, h1], h2 rfl⟩
      | true =>
        obtain ⟨k', rfl, fl, h4, h5⟩ := h3 rfl
        cases fl with
        | nx e3 =>
          obtain ⟨fl, a1, a2⟩ := ih k' e3 (by omega) h5
          exact ⟨fl, by simp only [whGo, h1, h4]; exact a1, a2⟩
        | ct e3 =>
          obtain ⟨fl, a1, a2⟩ := ih k' e3 (by omega) h5
          exact ⟨fl, by simp only [whGo, h1, h4]; exact a1, a2⟩
        | bk e3 => exact ⟨_, by simp only [whGo, h1, h4], h5⟩
        | rt r e3 => exact ⟨_, by simp only [whGo, h1, h4], h5⟩
  exact go _ k e hk h0
end
/-! ### defs -/
theorem w_def {n nl : Nat} {g : Fs} {ds : List PyData} {P : Rs → Prop} (hl : ds.length = n) (h : wS g (env0 ds nl) (finK P)) : ∃ r, runF n nl g ds = some r ∧ P r := by
  obtain ⟨fl, h1, h2⟩ := h
  unfold runF
  rw [if_pos hl, h1]
  cases fl with
  | nx e => exact ⟨_, rfl, h2⟩
  | bk e => exact h2.elim
  | ct e => exact h2.elim
  | rt r e => exact h2
theorem w_eq {n nl : Nat} {g : Fs} {ds : List PyData} {r : Rs} (hl : ds.length = n) (h : wS g (env0 ds nl) (finK (· = r))) : runF n nl g ds = some r := by
  obtain ⟨r', h1, h2⟩ := w_def hl h
  rw [h1, h2]
/-! ### comprehensions, typed -/
theorem lc_typed {α : Type} {fi : Fi} {γ : PyData → Ev → Option Ev} {tst : Ft} {fe : Fe} {vs : List Nat} {e e1 : Ev} (l : List α) (f : α → PyData) (p : α → Bool) (g : α → PyData) (hi : fi e = some (l.map f, e1)) (hn : noAc e1 vs = true) (hl : l.length ≤ 16777216)
    (h : ∀ a ∈ l, ∃ a1 a2, γ (f a) (wipeE e1 vs) = some a1 ∧ tst a1 = some (p a, a2) ∧ (p a = false → wipeE a2 vs = wipeE e1 vs) ∧ (p a = true → ∃ r a3, fe a2 = some (r, a3) ∧ imR (frzR r) = some (g a) ∧ wipeE a3 vs = wipeE e1 vs)) :
    x_lc fi γ tst fe vs e = some (.ac ((l.filter p).map g), e1) := by
  have go : ∀ (l : List α) (acc : List PyData), acc.length + l.length ≤ 16777216 → (∀ a ∈ l, ∃ a1 a2, γ (f a) (wipeE e1 vs) = some a1 ∧ tst a1 = some (p a, a2) ∧ (p a = false → wipeE a2 vs = wipeE e1 vs) ∧ (p a = true → ∃ r a3, fe a2 = some (r, a3) ∧ imR (frzR r) = some (g a) ∧ wipeE a3 vs = wipeE e1 vs)) →
      lcGo γ tst fe vs (l.map f) (wipeE e1 vs) acc = some (acc ++ (l.filter p).map g, wipeE e1 vs) := by
    intro l
    induction l with
    | nil =>
      intro acc _ _
      simp [lcGo]
    | cons a l ih =>
      intro acc hl h
      obtain ⟨a1, a2, h1, h2, h3, h4⟩ := h a List.mem_cons_self
      rw [List.length_cons] at hl
      rw [List.map_cons]
      simp only [lcGo, h1, h2]
      cases c : p a with
      | false =>
        simp only [h3 c]
        rw [ih acc (by omega) fun x m => h x (List.mem_cons_of_mem _ m), List.filter_cons_of_neg (by simp [c])]
      | true =>
        obtain ⟨r, a3, h5, h6, h7⟩ := h4 c
        simp only [h5, h6, h7]
        rw [if_pos (okLen_yes (by omega)), ih _ (by simp only [List.length_append, List.length_cons, List.length_nil]; omega) fun x m => h x (List.mem_cons_of_mem _ m), List.filter_cons_of_pos c, List.map_cons, List.append_assoc]
        rfl
  unfold x_lc
  simp only [hi]
  rw [if_pos hn, go l [] (by simpa using hl) h]
  simp only [rest_wipe, List.nil_append]
theorem lc_all {α : Type} {fi : Fi} {γ : PyData → Ev → Option Ev} {fe : Fe} {vs : List Nat} {e e1 : Ev} (l : List α) (f g : α → PyData) (hi : fi e = some (l.map f, e1)) (hn : noAc e1 vs = true) (hl : l.length ≤ 16777216)
    (h : ∀ a ∈ l, ∃ a1 r a3, γ (f a) (wipeE e1 vs) = some a1 ∧ fe a1 = some (r, a3) ∧ imR (frzR r) = some (g a) ∧ wipeE a3 vs = wipeE e1 vs) :
    x_lc fi γ t_yes fe vs e = some (.ac (l.map g), e1) := by
  have q := lc_typed (tst := t_yes) (fe := fe) l f (fun _ => true) g hi hn hl fun a m => by
    obtain ⟨a1, r, a3, h1, h2, h3, h4⟩ := h a m
    exact ⟨a1, a1, h1, rfl, fun z => (by cases z), fun _ => ⟨r, a3, h2, h3, h4⟩⟩
  rw [q, List.filter_eq_self.mpr fun _ _ => rfl]
theorem lcT {α : Type} {fi : Fi} {γ : PyData → Ev → Option Ev} {tst : Ft} {fe : Fe} {vs : List Nat} {e : Ev} (l : List α) (f : α → PyData) (p : α → Bool) (g : α → PyData) (hi : fi e = some (l.map f, e)) (hn : noAc e vs = true) (hl : l.length ≤ 16777216)
    (h : ∀ a ∈ l, ∃ a1, γ (f a) (wipeE e vs) = some a1 ∧ ∃ q, tst a1 = some (p a, q) ∧ wipeE q vs = wipeE e vs ∧ (p a = true → ∃ z, fe q = some z ∧ imR (frzR z.1) = some (g a) ∧ wipeE z.2 vs = wipeE e vs)) :
    x_lc fi γ tst fe vs e = some (.ac ((l.filter p).map g), e) :=
  lc_typed l f p g hi hn hl fun a m => by
    obtain ⟨a1, h1, a2, h2, h4, h5⟩ := h a m
    refine ⟨a1, a2, h1, h2, fun _ => h4, fun c => ?_⟩
    obtain ⟨⟨r, a3⟩, h6, h7, h8⟩ := h5 c
    exact ⟨r, a3, h6, h7, h8⟩
theorem lcA {α : Type} {fi : Fi} {γ : PyData → Ev → Option Ev} {fe : Fe} {vs : List Nat} {e : Ev} (l : List α) (f g : α → PyData) (hi : fi e = some (l.map f, e)) (hn : noAc e vs = true) (hl : l.length ≤ 16777216)
    (h : ∀ a ∈ l, ∃ a1, γ (f a) (wipeE e vs) = some a1 ∧ ∃ z, fe a1 = some z ∧ imR (frzR z.1) = some (g a) ∧ wipeE z.2 vs = wipeE e vs) :
    x_lc fi γ t_yes fe vs e = some (.ac (l.map g), e) :=
  lc_all l f g hi hn hl fun a m => by
    obtain ⟨a1, h1, ⟨r, a3⟩, h2, h3, h4⟩ := h a m
    exact ⟨a1, r, a3, h1, h2, h3, h4⟩
theorem w_seqE {f g : Fs} {e : Ev} {Q : Fl → Prop} (e1 : Ev) (h : wS f e (· = .nx e1)) (k : wS g e1 Q) : wS (s_seq f g) e Q := by
  obtain ⟨fl, h1, rfl⟩ := h
  exact w_seq ⟨_, h1, k⟩
/-! ### the same, for simp -/
def putK (i : Nat) (Q : Fl → Prop) (e : Ev) : Rs → Prop
  | .im d => Q (.nx (e.set i (some (.im d))))
  | .ac ds => Q (.nx (e.set i (some (.ac ds))))
  | .br _ => False
section
variable {f g : Fs} {e e1 : Ev} {Q : Fl → Prop} {c : Ft} {x : Fe} {i : Nat} {d : PyData} {ds : List PyData} {J : Ev → Prop} {P : Rs → Prop} {r : Rs}
theorem w_ret' (h : ∃ p, x e = some p ∧ Q (.rt p.1 p.2)) : wS (s_ret x) e Q := by
  obtain ⟨⟨r, e1⟩, h1, h2⟩ := h
  exact w_ret h1 h2
theorem w_retN' (h : Q (.rt (.im .none) e)) : wS s_retN e Q := ⟨_, rfl, h⟩
theorem w_drop' (h : ∃ p, x e = some p ∧ Q (.nx p.2)) : wS (s_drop x) e Q := by
  obtain ⟨⟨r, e1⟩, h1, h2⟩ := h
  exact w_drop h1 h2
theorem w_set' (h : ∃ p, x e = some p ∧ okS [i] p.2 = true ∧ putK i Q p.2 p.1) : wS (s_set i x) e Q := by
  obtain ⟨⟨r, e1⟩, h1, h2, h3⟩ := h
  cases r with
  | im d => exact w_setB h1 h2 h3
  | ac ds => exact w_setA h1 h2 h3
  | br j => exact h3.elim
theorem w_setF' (h : ∃ p, x e = some p ∧ okS [i] p.2 = true ∧ putK i Q p.2 (frzR p.1)) : wS (s_setF i x) e Q := by
  obtain ⟨⟨r, e1⟩, h1, h2, h3⟩ := h
  cases r with
  | im d => exact w_setI h1 h2 h3
  | ac ds => exact w_setL h1 h2 h3
  | br j => exact h3.elim
theorem w_if' (h : ∃ p, c e = some p ∧ (p.1 = true → wS f p.2 Q) ∧ (p.1 = false → wS g p.2 Q)) : wS (s_if c f g) e Q := by
  obtain ⟨⟨b, e1⟩, h1, h2, h3⟩ := h
  exact w_if h1 h2 h3
theorem n_seqK0 {e : Ev} {g : Fs} {Q : Fl → Prop} : seqK g Q (.nx e) = wS g e Q := rfl
theorem n_seqK1 {e : Ev} {r : Rs} {g : Fs} {Q : Fl → Prop} : seqK g Q (.rt r e) = Q (.rt r e) := rfl
theorem n_seqK2 {e : Ev} {g : Fs} {Q : Fl → Prop} : seqK g Q (.bk e) = Q (.bk e) := rfl
theorem n_seqK3 {e : Ev} {g : Fs} {Q : Fl → Prop} : seqK g Q (.ct e) = Q (.ct e) := rfl
theorem n_loopK0 {e : Ev} {Q : Fl → Prop} {J : Ev → Prop} : loopK J Q (.nx e) = J e := rfl
theorem n_loopK1 {e : Ev} {Q : Fl → Prop} {J : Ev → Prop} : loopK J Q (.ct e) = J e := rfl
theorem n_loopK2 {e : Ev} {Q : Fl → Prop} {J : Ev → Prop} : loopK J Q (.bk e) = Q (.nx e) := rfl
theorem n_loopK3 {e : Ev} {r : Rs} {Q : Fl → Prop} {J : Ev → Prop} : loopK J Q (.rt r e) = Q (.rt r e) := rfl
theorem n_finK0 {e : Ev} {r : Rs} {P : Rs → Prop} : finK P (.rt r e) = (∃ r', finR r e = some r' ∧ P r') := rfl
theorem n_finK1 {e : Ev} {P : Rs → Prop} : finK P (.nx e) = P (.im .none) := rfl
theorem n_putK0 {e : Ev} {d : PyData} {i : Nat} {Q : Fl → Prop} : putK i Q e (.im d) = Q (.nx (e.set i (some (.im d)))) := rfl
theorem n_putK1 {e : Ev} {ds : List PyData} {i : Nat} {Q : Fl → Prop} : putK i Q e (.ac ds) = Q (.nx (e.set i (some (.ac ds)))) := rfl
theorem n_nx : wS s_nx e Q = Q (.nx e) := propext ⟨fun ⟨_, h, q⟩ => by cases h; exact q, fun q => ⟨_, rfl, q⟩⟩
theorem n_wipe : wipeE e [] = e := rfl
end
/-! ### the list that a reckoning uses -/
section
variable {e : Ev} {d : PyData} {ds : List PyData} {r : Rs} {rs : List Rs} {i : Nat} {S : List Nat}
theorem n_fin0 {e : Ev} {d : PyData} : finR (.im d) e = some (.im d) := rfl
theorem n_fin1 {e : Ev} {ds : List PyData} : finR (.ac ds) e = some (.ac ds) := rfl
theorem n_fin2 {e : Ev} {i : Nat} : finR (.br i) e = (match e[i]? with
    | some (some (.ac ds)) => some (.ac ds)
    | _ => none) := rfl
theorem n_putA0 {e : Ev} {d : PyData} {i : Nat} : putA i e (.im d) = some (e.set i (some (.im d))) := rfl
theorem n_putA1 {e : Ev} {ds : List PyData} {i : Nat} : putA i e (.ac ds) = some (e.set i (some (.ac ds))) := rfl
theorem n_okS : okS S e = !(S.contains 0 && isAc e[0]?) := rfl
theorem n_isAc0 {d : PyData} : isAc (some (some (.im d))) = false := rfl
theorem n_isAc1 {ds : List PyData} : isAc (some (some (.ac ds))) = true := rfl
theorem n_isAc2 {dss : List (Bool × List PyData)} : isAc (some (some (.nl dss))) = false := rfl
theorem n_isAc3  : isAc (some none) = false := rfl
theorem n_isAc4  : isAc none = false := rfl
theorem n_isNl0 {d : PyData} : isNl (some (some (.im d))) = false := rfl
theorem n_isNl1 {ds : List PyData} : isNl (some (some (.ac ds))) = false := rfl
theorem n_isNl2 {dss : List (Bool × List PyData)} : isNl (some (some (.nl dss))) = true := rfl
theorem n_isNl3  : isNl (some none) = false := rfl
theorem n_isNl4  : isNl none = false := rfl
theorem n_look2 {a b : Rs} : look2 (a, b, e) = (match lookR e a, lookR e b with
    | some x, some y => some (x, y, e)
    | _, _ => none) := rfl
theorem n_lookR0 {e : Ev} {d : PyData} : lookR e (.im d) = some d := rfl
theorem n_lookR1 {e : Ev} {ds : List PyData} : lookR e (.ac ds) = none := rfl
theorem n_lookR2 {e : Ev} {i : Nat} : lookR e (.br i) = (match e[i]? with
    | some (some (.ac ds)) => some (.list ds)
    | _ => none) := rfl
theorem n_frzR0 {d : PyData} : frzR (.im d) = .im d := rfl
theorem n_frzR1 {ds : List PyData} : frzR (.ac ds) = .im (.list ds) := rfl
theorem n_frzR2 {i : Nat} : frzR (.br i) = .br i := rfl
theorem n_lookAll0 {e : Ev} : lookAll e [] = some [] := rfl
theorem n_lookAll1 {e : Ev} {r : Rs} {rs : List Rs} : lookAll e (r :: rs) = (match lookR e r with
    | some d => (match lookAll e rs with
      | some ds => some (d :: ds)
      | none => none)
    | none => none) := rfl
theorem n_imAll0  : imAll [] = some [] := rfl
theorem n_imAll1 {r : Rs} {rs : List Rs} : imAll (r :: rs) = (match imR r with
    | some d => (match imAll rs with
      | some ds => some (d :: ds)
      | none => none)
    | none => none) := rfl
theorem n_imR0 {d : PyData} : imR (.im d) = some d := rfl
theorem n_imR1 {ds : List PyData} : imR (.ac ds) = none := rfl
theorem n_imR2 {i : Nat} : imR (.br i) = none := rfl
theorem n_len0 {ds : List PyData} : c_len [.list ds] = some (.im (.int ds.length)) := rfl
theorem n_len1 {ds : List PyData} : c_len [.tuple ds] = some (.im (.int ds.length)) := rfl
theorem n_int {k : Int} : c_int [.int k] = some (.im (.int k)) := rfl
theorem n_abs {k : Int} : c_abs [.int k] = some (.im (.int (if k < 0 then -k else k))) := rfl
theorem n_max2 {k j : Int} : c_max2 [.int k, .int j] = some (.im (.int (max k j))) := by
  show some (Rs.im (.int (if j > k then j else k))) = _
  congr 3
  split <;> omega
theorem n_min2 {k j : Int} : c_min2 [.int k, .int j] = some (.im (.int (min k j))) := by
  show some (Rs.im (.int (if j < k then j else k))) = _
  congr 3
  split <;> omega
theorem n_list0 {ds : List PyData} : c_list [.list ds] = some (.ac ds) := rfl
theorem n_list1 {ds : List PyData} : c_list [.tuple ds] = some (.ac ds) := rfl
theorem n_list2 {ds : List PyData} : c_tuple [.list ds] = some (.im (.tuple ds)) := rfl
theorem n_list3 {ds : List PyData} : c_tuple [.tuple ds] = some (.im (.tuple ds)) := rfl
theorem n_isD0 {k : Int} : isD .int (.int k) = some true := rfl
theorem n_isD1 {b : Bool} : isD .int (.bool b) = some true := rfl
theorem n_isD2 {b : Bool} : isD .bool (.bool b) = some true := rfl
theorem n_isD3 {x : Str} : isD .str (.str x) = some true := rfl
theorem n_isD4 {ds : List PyData} : isD .tuple (.tuple ds) = some true := rfl
theorem n_isD5 {ds : List PyData} : isD .list (.list ds) = some true := rfl
theorem n_isD6 {k : Int} : isD .bool (.int k) = some false := rfl
theorem n_isD7 {k : Int} : isD .tuple (.int k) = some false := rfl
theorem n_isD8 {b : Bool} : isD .tuple (.bool b) = some false := rfl
theorem n_isD9 {ds : List PyData} : isD .bool (.tuple ds) = some false := rfl
theorem n_isD10 {ds : List PyData} : isD .int (.tuple ds) = some false := rfl
theorem n_isD11 {k : Int} : isD .str (.int k) = some false := rfl
theorem n_isD12 {ds : List PyData} : isD .tuple (.list ds) = some false := rfl
theorem n_all0 {bs : List Bool} : c_all [.list (bs.map PyData.bool)] = some (.im (.bool (bs.all id))) := by
  unfold c_all
  simp only [unB_map]
theorem n_all1 {bs : List Bool} : c_any [.list (bs.map PyData.bool)] = some (.im (.bool (bs.any id))) := by
  unfold c_any
  simp only [unB_map]
theorem n_sortedR {fa : Fa} {e1 : Ev} {ns : List Int} (h : argsD fa e = some ([.list (ns.map PyData.int)], e1)) : x_sortedR fa e = some (.ac ((downI ns).map PyData.int), e1) := by
  unfold x_sortedR x_cb
  rw [h]
  simp only [c_intsL, unI_ints]
theorem n_maxDf {fa : Fa} {e1 : Ev} {ns : List Int} {k : Int} (h : argsD fa e = some ([.list (ns.map PyData.int)], e1)) : x_maxDf k fa e = some (.im (.int (maxO k ns)), e1) := by
  unfold x_maxDf x_cb
  rw [h]
  simp only [c_intsL, unI_ints]
theorem n_sR {fa : Fa} {e : Ev} : x_sortedR fa e = x_cb (c_intsL fun ns => some (.ac ((downI ns).map PyData.int))) fa e := rfl
theorem n_mD {fa : Fa} {e : Ev} {k : Int} : x_maxDf k fa e = x_cb (c_intsL fun ns => some (.im (.int (maxO k ns)))) fa e := rfl
theorem n_intsL {g : List Int → Option Rs} {ns : List Int} : c_intsL g [.list (ns.map PyData.int)] = g ns := by
  simp only [c_intsL, unI_ints]
theorem n_env0 {nl : Nat} : env0 ds nl = ds.map (fun d => some (Sl.im d)) ++ List.replicate nl none := rfl
end
theorem x_ix_eq {fa fb : Fe} : x_ix fa fb = x_bin p_ix fa fb := rfl
theorem evs : type_of% (And.intro @n_sR (And.intro @n_mD (And.intro @n_intsL (And.intro @n_seqK0 (And.intro @n_seqK1 (And.intro @n_seqK2 (And.intro @n_seqK3 (And.intro @n_loopK0 (And.intro @n_loopK1 (And.intro @n_loopK2 (And.intro @n_loopK3 (And.intro @n_finK0 (And.intro @n_finK1 (And.intro @n_putK0 (And.intro @n_putK1 (And.intro @n_nx (And.intro @r_x_var (And.intro @r_x_c (And.intro @r_two (And.intro @r_x_bin (And.intro @r_t_of (And.intro @r_t_not (And.intro @r_t_and (And.intro @r_t_or (And.intro @r_x_and (And.intro @r_x_or (And.intro @r_x_not (And.intro @r_x_if (And.intro @r_x_chain (And.intro @r_a_nil (And.intro @r_a_cons (And.intro @r_argsD (And.intro @r_argsI (And.intro @r_x_tup (And.intro @r_x_lst (And.intro @r_x_isi (And.intro @r_x_cb (And.intro @r_x_call (And.intro @r_t_yes (And.intro @r_i_seq (And.intro @r_x_neg (And.intro @r_x_app (And.intro @r_i_rng1 (And.intro @r_i_rng2 (And.intro @r_i_rev (And.intro @r_x_rev (And.intro @r_g_name (And.intro @n_fin0 (And.intro @n_fin1 (And.intro @n_fin2 (And.intro @n_putA0 (And.intro @n_putA1 (And.intro @n_okS (And.intro @n_isAc0 (And.intro @n_isAc1 (And.intro @n_isAc2 (And.intro @n_isAc3 (And.intro @n_isAc4 (And.intro @n_isNl0 (And.intro @n_isNl1 (And.intro @n_isNl2 (And.intro @n_isNl3 (And.intro @n_isNl4 (And.intro @n_look2 (And.intro @n_lookR0 (And.intro @n_lookR1 (And.intro @n_lookR2 (And.intro @n_frzR0 (And.intro @n_frzR1 (And.intro @n_frzR2 (And.intro @n_lookAll0 (And.intro @n_lookAll1 (And.intro @n_imAll0 (And.intro @n_imAll1 (And.intro @n_imR0 (And.intro @n_imR1 (And.intro @n_imR2 (And.intro @n_len0 (And.intro @n_len1 (And.intro @n_int (And.intro @n_abs (And.intro @n_max2 (And.intro @n_min2 (And.intro @n_list0 (And.intro @n_list1 (And.intro @n_list2 (And.intro @n_list3 (And.intro @n_isD0 (And.intro @n_isD1 (And.intro @n_isD2 (And.intro @n_isD3 (And.intro @n_isD4 (And.intro @n_isD5 (And.intro @n_isD6 (And.intro @n_isD7 (And.intro @n_isD8 (And.intro @n_isD9 (And.intro @n_isD10 (And.intro @n_isD11 (And.intro @n_isD12 (And.intro @n_all0 (And.intro @n_all1 (And.intro @n_env0 (And.intro @e_add (And.intro @e_sub (And.intro @e_qlt (And.intro @e_qle (And.intro @e_qgt (And.intro @e_qge (And.intro @e_eq (And.intro @e_ne (And.intro @e_isnone (And.intro @e_isT (And.intro @e_isnotnone (And.intro @e_isnotT (And.intro @e_isB (And.intro @e_isnotB (And.intro @e_neB @e_eqB)))))))))))))))))))))))))))))))))))))))))))))))))))))))))))))))))))))))))))))))))))))))))))))))))))))))))))))))))))))) := (And.intro @n_sR (And.intro @n_mD (And.intro @n_intsL (And.intro @n_seqK0 (And.intro @n_seqK1 (And.intro @n_seqK2 (And.intro @n_seqK3 (And.intro @n_loopK0 (And.intro @n_loopK1 (And.intro @n_loopK2 (And.intro @n_loopK3 (And.intro @n_finK0 (And.intro @n_finK1 (And.intro @n_putK0 (And.intro @n_putK1 (And.intro @n_nx (And.intro @r_x_var (And.intro @r_x_c (And.intro @r_two (And.intro @r_x_bin (And.intro @r_t_of (And.intro @r_t_not (And.intro @r_t_and (And.intro @r_t_or (And.intro @r_x_and (And.intro @r_x_or (And.intro @r_x_not (And.intro @r_x_if (And.intro @r_x_chain (And.intro @r_a_nil (And.intro @r_a_cons (And.intro @r_argsD (And.intro @r_argsI (And.intro @r_x_tup (And.intro @r_x_lst (And.intro @r_x_isi (And.intro @r_x_cb (And.intro @r_x_call (And.intro @r_t_yes (And.intro @r_i_seq (And.intro @r_x_neg (And.intro @r_x_app (And.intro @r_i_rng1 (And.intro @r_i_rng2 (And.intro @r_i_rev (And.intro @r_x_rev (And.intro @r_g_name (And.intro @n_fin0 (And.intro @n_fin1 (And.intro @n_fin2 (And.intro @n_putA0 (And.intro @n_putA1 (And.intro @n_okS (And.intro @n_isAc0 (And.intro @n_isAc1 (And.intro @n_isAc2 (And.intro @n_isAc3 (And.intro @n_isAc4 (And.intro @n_isNl0 (And.intro @n_isNl1 (And.intro @n_isNl2 (And.intro @n_isNl3 (And.intro @n_isNl4 (And.intro @n_look2 (And.intro @n_lookR0 (And.intro @n_lookR1 (And.intro @n_lookR2 (And.intro @n_frzR0 (And.intro @n_frzR1 (And.intro @n_frzR2 (And.intro @n_lookAll0 (And.intro @n_lookAll1 (And.intro @n_imAll0 (And.intro @n_imAll1 (And.intro @n_imR0 (And.intro @n_imR1 (And.intro @n_imR2 (And.intro @n_len0 (And.intro @n_len1 (And.intro @n_int (And.intro @n_abs (And.intro @n_max2 (And.intro @n_min2 (And.intro @n_list0 (And.intro @n_list1 (And.intro @n_list2 (And.intro @n_list3 (And.intro @n_isD0 (And.intro @n_isD1 (And.intro @n_isD2 (And.intro @n_isD3 (And.intro @n_isD4 (And.intro @n_isD5 (And.intro @n_isD6 (And.intro @n_isD7 (And.intro @n_isD8 (And.intro @n_isD9 (And.intro @n_isD10 (And.intro @n_isD11 (And.intro @n_isD12 (And.intro @n_all0 (And.intro @n_all1 (And.intro @n_env0 (And.intro @e_add (And.intro @e_sub (And.intro @e_qlt (And.intro @e_qle (And.intro @e_qgt (And.intro @e_qge (And.intro @e_eq (And.intro @e_ne (And.intro @e_isnone (And.intro @e_isT (And.intro @e_isnotnone (And.intro @e_isnotT (And.intro @e_isB (And.intro @e_isnotB (And.intro @e_neB @e_eqB))))))))))))))))))))))))))))))))))))))))))))))))))))))))))))))))))))))))))))))))))))))))))))))))))))))))))))))))))))))
end DL
namespace DL
open L2 PySem PySem.Spec PySem.W PyProof.Rows
section
variable {P0 : Program} {w0 : World} {A0 : Around} {E0' : Value → Shared → Prop} {s : Shared}
/-! ### t[::-1], t a tuple -/
theorem places_rev (n : Nat) : Builtin.Slice.slicePlaces ((n : Int) - 1) (-1) (-1) = n := by
  cases n with
  | zero => decide
  | succ m =>
    have a : ¬ (-1 : Int) > 0 := by omega
    have b : (-1 : Int) < ((m + 1 : Nat) : Int) - 1 := by omega
    simp only [Builtin.Slice.slicePlaces, if_neg a, if_pos b, Int.neg_neg, Int.ediv_one]
    omega
theorem applied_rev {sl : Addr} {u : Tok} {n : Nat} {Q : Int × Int × Nat → Shared → Prop} (hs : s.heap.IsSliceOf sl .none .none (.int (-1) u)) (h : Q ((n : Int) - 1, -1, n) s) : wpAny (model P0 w0) A0 (Builtin.Slice.sliceApplied (.ref sl) (pure (n : Int))) Q E0' s := by
  obtain ⟨so, e1, e2, e3⟩ := id hs
  have parts : ∀ {K : Value × Value × Value → Shared → Prop}, K (.none, .none, .int (-1) u) s → wpAny (model P0 w0) A0 (Builtin.Slice.sliceFields (.ref sl)) K E0' s := fun {K} k => by
    unfold Builtin.Slice.sliceFields
    exact wpAny_bind (wpAny_field e1 e3 (x := .none) rfl (wpAny_bind (wpAny_field e1 e3 (x := .none) rfl (wpAny_bind (wpAny_field e1 e3 (x := .int (-1) u) rfl (wpAny_pure k))))))
  have rest : wpAny (model P0 w0) A0 (pure ((n : Int) - 1, (-1 : Int), Builtin.Slice.slicePlaces ((n : Int) - 1) (-1) (-1))) Q E0' s := by
    rw [places_rev]
    exact wpAny_pure h
  unfold Builtin.Slice.sliceApplied
  refine wpAny_bind (parts (wpAny_bind (HT.slicePart_ (IsPart.int (-1) u) ?_)))
  have two : ((-1 : Int) == 0) = false := rfl
  simp only [two]
  exact wpAny_bind (HT.slicePart_ IsPart.none (wpAny_bind (HT.slicePart_ IsPart.none (wpAny_bind (wpAny_pure rest)))))
theorem fm_congr {α β : Type} {f g : α → Option β} : ∀ {l : List α}, (∀ x ∈ l, f x = g x) → l.filterMap f = l.filterMap g
  | [], _ => rfl
  | a :: l, h => by
    rw [List.filterMap_cons, List.filterMap_cons, h a List.mem_cons_self, fm_congr fun x m => h x (List.mem_cons_of_mem _ m)]
theorem fm_self {α : Type} : ∀ r : List α, (List.range r.length).filterMap (fun k => r[k]?) = r
  | [] => rfl
  | a :: r => by
    rw [List.length_cons, List.range_succ_eq_map, List.filterMap_cons, List.filterMap_map]
    have := fm_self r
    show a :: (List.range r.length).filterMap (fun k => (a :: r)[k + 1]?) = a :: r
    simp only [List.getElem?_cons_succ]
    rw [this]
theorem pick_backL {α : Type} (l : List α) : (List.range l.length).filterMap (fun (k : Nat) => l[(((l.length : Int) - 1) + (k : Int) * (-1)).toNat]?) = l.reverse := by
  have e2 := fm_self l.reverse
  rw [List.length_reverse] at e2
  rw [← e2]
  refine fm_congr fun k hk => ?_
  have hk := List.mem_range.mp hk
  rw [List.getElem?_reverse hk]
  congr 1
  omega
theorem pick_back (xs : Array Value) : ((List.range xs.size).filterMap fun (k : Nat) => xs[(((xs.size : Int) - 1) + (k : Int) * (-1)).toNat]?).toArray = xs.toList.reverse.toArray := by
  congr 1
  have q := pick_backL xs.toList
  rw [Array.length_toList] at q
  simp only [Array.getElem?_toList] at q
  exact q
theorem item_back {t sl : Addr} {xs : Array Value} {u : Tok} {Q : Value → Shared → Prop} (ht : IsTup s.heap t xs) (hs : s.heap.IsSliceOf sl .none .none (.int (-1) u)) (hz : xs.size ≤ sizeLine)
    (h : Q (.ref s.heap.objs.size) { s with heap := s.heap.push { cls := .type "tuple", data := .seq xs.toList.reverse.toArray } }) : wpAny (model P0 w0) A0 (getItem (.ref t) (.ref sl)) Q E0' s := by
  have fit : sizeOk (.seq xs.toList.reverse.toArray) := by
    show xs.toList.reverse.toArray.size ≤ sizeLine
    rw [List.size_toArray, List.length_reverse, Array.length_toList]
    exact hz
  have isS : s.TypeIs (.ref sl) "slice" := by
    obtain ⟨so, e1, e2, _⟩ := hs
    exact ⟨so, e1, e2⟩
  have whole : (((xs.size : Int) - 1) == 0 && (-1 : Int) == 1 && xs.size == xs.size) = false := by simp
  have read : ∀ {A1 : Around} {E1 : Value → Shared → Prop} {R : PySem.Fin → Shared → Prop}, R (.done (.ret (.ref s.heap.objs.size))) { s with heap := s.heap.push { cls := .type "tuple", data := .seq xs.toList.reverse.toArray } } →
      wpAny (model P0 w0) A1 (Builtin.«tuple.__getitem__» ⟨[.ref t, .ref sl], []⟩) R E1 s := fun {A1 E1 R} r => by
    change wpAny (model P0 w0) A1 (Builtin.Tuple.tupleItemsOf (.ref t) >>= fun _ => _) R E1 s
    refine wpAny_bind (tupleItemsOf_ ht (wpAny_bind (wpAny_typeOf isS ?_)))
    rw [if_pos (by decide)]
    refine wpAny_bind (applied_rev hs ?_)
    change wpAny (model P0 w0) A1 (if (((xs.size : Int) - 1) == 0 && (-1 : Int) == 1 && xs.size == xs.size) = true then _ else _) R E1 s
    rw [if_neg (by rw [whole]; exact Bool.noConfusion), pick_back]
    exact wpAny_bind (wpAny_newObj_type (wpAny_pure r) fit)
  unfold getItem
  refine wpAny_holding (wpAny_bind (wpAny_sequenceKey ht.typeIs (by decide) (wpAny_bind (wpAny_callSpecial?_slot (name := Str.ofString "__getitem__") ht.typeIs slot_tuple_getitem (wpAny_call_entry slot_tuple_getitem ht.typeIs entry_tuple_getitem (read ⟨_, rfl, wpAny_pure h⟩) (args_tuple_getitem _ _))))))
/-- what a slice that goes back asks of its tuple -/
def bkT (K : PySem.W.Frag) (Q : VK) (x : V) (lo hi st : Option Int) (H : Hp) : Prop := lo = none ∧ hi = none ∧ st = some (-1) ∧ ∃ a xs, x = .ref a ∧ SqT K H a xs ∧ ∀ p, H p = none → Q (.ref p) (upd H p (.tup xs.reverse))
end
theorem pe_revT {X : Cx} {e : Expr} {te : TE} {k : Nat} {p1 p2 p3 pos : Pos} (he : PE X e te) : ∃ tm, PO X (some (.UnaryOp .USub (.Constant (.int 1) k p1) p2)) tm ∧ (∀ σ H Q, Q (some (-1)) H → tm σ H Q) ∧
    PE X (.Subscript e (.Slice none none (some (.UnaryOp .USub (.Constant (.int 1) k p1) p2)) p3) pos) (fun σ H Q => tSl te (fun _ H Q => Q none H) (fun _ H Q => Q none H) tm (bkT X.K Q) σ H) := by
  have minus : PO X (some (.UnaryOp .USub (.Constant (.int 1) k p1) p2)) (tPart (tUn (rU fun i => .int (-i)) (tC (.int 1)))) := po_some (pe_un un_neg pe_int)
  refine ⟨_, minus, fun σ H Q q => ⟨1, rfl, -1, rfl, q⟩, ?_⟩
  constructor
  intro pins s σ H Q I h
  refine run_sl he po_none po_none minus I h ?_
  rintro _ _ _ vl _ vu _ vo s' H' rx pl pu po J ⟨rfl, rfl, rfl, a, xs, rfl, hx, q⟩
  cases rx
  cases pl
  cases pu
  cases po with
  | int _ tk =>
    obtain ⟨its, rv, tp, sz⟩ := J.tuple hx
    refine tail_any (ops := [.ref a, .ref s'.heap.objs.size]) tp.typeIs PyProof.Rows.slot_tuple_getitem.lookup ?_ (by with_unfolding_all rfl)
    refine item_back tp (Heap.IsSliceOf.new _ _ _ _) (by rw [List.size_toArray, ← rv.length]; exact sz) ?_
    exact ⟨.ref _, _, J.laid (t' := s'.toks) (o := .tup xs.reverse) (fun _ _ z => Heap.get?_push_of_some _ z) (Nat.le_refl _) ⟨by rw [List.length_reverse]; exact sz, _, rv.reverse, IsTup.new _ _⟩, rfl, q _ (J.hok.fresh (Nat.le_refl _))⟩
theorem pe_or {X : Cx} {e : Expr} {t1 t2 : TE} (h1 : PE X e t1) (h2 : PE X e t2) : PE X e (fun σ H Q => t1 σ H Q ∨ t2 σ H Q) :=
  ⟨fun pins s σ H Q I h => h.elim (h1.run pins s σ H Q I) (h2.run pins s σ H Q I)⟩
def x_rvs (fa : Fe) : Fe := fun e => match fa e with
  | some (r, e1) => (match lookR e1 (frzR r) with
    | some (.list ds) => some (.ac ds.reverse, e1)
    | some (.tuple ds) => some (.im (.tuple ds.reverse), e1)
    | _ => none)
  | none => none
theorem ed_rvs {X : Cx} {a : Expr} {fa : Fe} {pos : Pos} {n : Nat} {p1 p2 p3 : Pos} (ha : ED X a fa) : ED X (.Subscript a (.Slice none none (some (.UnaryOp .USub (.Constant (.int 1) n p1) p2)) p3) pos) (x_rvs fa) := by
  obtain ⟨t, p, k⟩ := ha
  obtain ⟨tm, _, hm, pb⟩ := pe_revT (k := n) (p1 := p1) (p2 := p2) (p3 := p3) (pos := pos) p
  refine ⟨_, pe_or (pe_revL p) pb, fun m E G0 G e σ H r e' Q R q P => ?_⟩
  unfold x_rvs at q
  cases h1 : fa e with
  | none => simp only [h1] at q; cases q
  | some z =>
    obtain ⟨r0, e1⟩ := z
    simp only [h1] at q
    split at q
    · rename_i ds h4
      cases q
      refine .inl (k m E G0 G e σ H r0 _ _ R h1 fun v G1 H1 R1 S1 V1 N1 => ?_)
      obtain ⟨G2, R2, S2, s2, V2⟩ := R1.freeze S1 V1 N1
      obtain ⟨b, ws, ex, hs, dk⟩ := (R2.look V2 h4).list R2.gh
      refine ⟨b, ws, ex, hs, fun p hp => ?_⟩
      obtain ⟨R', S', V', N'⟩ := R2.newL hp (dpAll_rev dk)
      exact P _ _ _ R' (S2.trans S') V' (nw_back S2 _ N')
    · rename_i ds h4
      cases q
      refine .inr (k m E G0 G e σ H r0 _ _ R h1 fun v G1 H1 R1 S1 V1 N1 => ?_)
      obtain ⟨G2, R2, S2, s2, V2⟩ := R1.freeze S1 V1 N1
      obtain ⟨b, ws, ex, hs, dk⟩ := (R2.look V2 h4).tup R2.gh
      refine hm _ _ _ ⟨rfl, rfl, rfl, b, ws, ex, hs, fun p hp => ?_⟩
      obtain ⟨R', S', D'⟩ := R2.newT hp (dpAll_rev dk)
      exact P _ _ _ R' (S2.trans S') D' True.intro
    · cases q
theorem r_x_rvs (fa : Fe) (e : Ev) : x_rvs fa e = (match fa e with
  | some (r, e1) => (match lookR e1 (frzR r) with
    | some (.list ds) => some (.ac ds.reverse, e1)
    | some (.tuple ds) => some (.im (.tuple ds.reverse), e1)
    | _ => none)
  | none => none) := of_eq_true (eq_self _)
end DL
namespace DL
open L2 PySem PySem.Spec PySem.W PyProof.Rows

/-! ### more rules for reckoning -/
abbrev im (d : PyData) : Option Sl := some (.im d)
abbrev ac (ds : List PyData) : Option Sl := some (.ac ds)
abbrev tN (l : List Nat) : PyData := .tuple (l.map nD)
abbrev lN (l : List Nat) : PyData := .list (l.map nD)
abbrev tZ (l : List Int) : PyData := .tuple (l.map PyData.int)
abbrev lZ (l : List Int) : PyData := .list (l.map PyData.int)
section
variable {x fk fv : Fe} {e : Ev} {Q : Fl → Prop} {S : List Nat} {γ : PyData → Ev → Option Ev} {i : Nat}
theorem w_asg' (h : ∃ p, x e = some p ∧ okS S p.2 = true ∧ ∃ d, imR (frzR p.1) = some d ∧ ∃ e2, γ d p.2 = some e2 ∧ Q (.nx e2)) : wS (s_asg γ S x) e Q := by
  obtain ⟨⟨r, e1⟩, h1, h2, d, h3, e2, h4, h5⟩ := h
  refine ⟨_, ?_, h5⟩
  rw [r_s_asg, h1]
  dsimp only at h2 h3 h4 ⊢
  rw [if_pos h2, h3]
  dsimp only
  rw [h4]
theorem w_put' (h : ∃ p, fv e = some p ∧ isAc p.2[i]? = true ∧ ∃ d, imR (frzR p.1) = some d ∧ ∃ k e2, fk p.2 = some (.im (.int k), e2) ∧ ∃ ds, e2[i]? = some (some (.ac ds)) ∧ ∃ j, ixN ds.length k = some j ∧ Q (.nx (e2.set i (some (.ac (ds.set j d)))))) : wS (s_put i fv fk) e Q := by
  obtain ⟨⟨r, e1⟩, h1, h2, d, h3, k, e2, h4, ds, h5, j, h6, h7⟩ := h
  refine ⟨_, ?_, h7⟩
  rw [r_s_put, h1]
  dsimp only at h2 h3 h4 ⊢
  rw [if_pos h2, h3, h4]
  dsimp only
  rw [h5]
  dsimp only
  rw [h6]
theorem w_aug' {g : Int → Int → Int} {j : Int} (h0 : e[i]? = some (some (.im (.int j)))) {k : Int} {e2 : Ev} (h1 : s_aug g i fv e = some (.nx e2)) (h : Q (.nx e2)) : wS (s_aug g i fv) e Q := ⟨_, h1, h⟩
end
theorem n_setAll0 {e : Ev} : setAll [] [] e = some e := rfl
theorem n_setAll1 {i : Nat} {is : List Nat} {d : PyData} {ds : List PyData} {e : Ev} : setAll (i :: is) (d :: ds) e = setAll is ds (e.set i (some (.im d))) := rfl
theorem evs2 : type_of% (And.intro @evs (And.intro @r_x_rvs (And.intro @n_setAll0 (And.intro @n_setAll1 (And.intro @r_g_tup (And.intro @r_i_zip (And.intro @r_x_trg (And.intro @r_g_rg2 (And.intro @r_g_rg1 (And.intro @r_x_lrg @r_i_enum)))))))))) :=
  And.intro @evs (And.intro @r_x_rvs (And.intro @n_setAll0 (And.intro @n_setAll1 (And.intro @r_g_tup (And.intro @r_i_zip (And.intro @r_x_trg (And.intro @r_g_rg2 (And.intro @r_g_rg1 (And.intro @r_x_lrg @r_i_enum)))))))))
/-! walks -/
theorem enum_map {α : Type} [Inhabited α] (f : α → PyData) (l : List α) : enumD (l.map f) = (List.range l.length).map fun k => PyData.tuple [nD k, f (gv l (k + 1))] := by
  refine List.ext_getElem? fun i => ?_
  unfold enumD
  rw [List.getElem?_map, List.getElem?_zipWith, List.length_map, List.getElem?_map]
  by_cases hi : i < l.length
  · rw [List.getElem?_range hi, gv_get hi]
    rfl
  · rw [List.getElem?_eq_none (by rw [List.length_range]; omega)]
    rfl
theorem zip_map {α β : Type} [Inhabited α] [Inhabited β] (f : α → PyData) (g : β → PyData) (l : List α) (m : List β) (h : l.length = m.length) : zipD (l.map f) (m.map g) = (List.range l.length).map fun k => PyData.tuple [f (gv l (k + 1)), g (gv m (k + 1))] := by
  refine List.ext_getElem? fun i => ?_
  unfold zipD
  rw [List.getElem?_map, List.getElem?_zipWith, List.getElem?_map, List.getElem?_map]
  by_cases hi : i < l.length
  · rw [List.getElem?_range hi, gv_get hi, gv_get (l := m) (by omega)]
    rfl
  · have z : (List.range l.length)[i]? = none := List.getElem?_eq_none (by rw [List.length_range]; omega)
    rw [z, List.getElem?_eq_none (l := l) (by omega)]
    rfl
theorem rgL1 (n : Nat) : rgL 1 ((n : Int) + 1) = (List.range n).map fun k => nD (k + 1) := by
  unfold rgL
  rw [show ((n : Int) + 1 - 1).toNat = n by omega]
  refine List.map_congr_left fun k _ => ?_
  unfold nD
  congr 1
  omega
theorem rg1_ok {n : Nat} (h : n ≤ 1000000) : rgOkB 1 ((n : Int) + 1) = true := by
  unfold rgOkB
  simp only [Bool.and_eq_true, decide_eq_true_eq]
  omega
theorem rev_range {α : Type} (f : Nat → α) (n : Nat) : ((List.range n).map fun k => f (k + 1)).reverse = (List.range n).map fun k => f (n - k) := by
  refine List.ext_getElem? fun i => ?_
  by_cases h : i < n
  · rw [List.getElem?_reverse (by rw [List.length_map, List.length_range]; exact h), List.length_map, List.length_range, List.getElem?_map, List.getElem?_range (by omega), List.getElem?_map, List.getElem?_range h]
    show some (f _) = some (f _)
    congr 2
    omega
  · rw [List.getElem?_eq_none (by rw [List.length_reverse, List.length_map, List.length_range]; omega), List.getElem?_eq_none (by rw [List.length_map, List.length_range]; omega)]
theorem range_split {n a : Nat} {pre post : List Nat} (h : List.range n = pre ++ a :: post) : pre = List.range a ∧ a < n := by
  have l : pre.length + (post.length + 1) = n := by
    have := congrArg List.length h
    rw [List.length_range, List.length_append, List.length_cons] at this
    omega
  have ea : a = pre.length := by
    have z : (List.range n)[pre.length]? = some a := by
      rw [h, List.getElem?_append_right (Nat.le_refl _), Nat.sub_self]
      rfl
    rw [List.getElem?_range (by omega)] at z
    exact (Option.some.inj z).symm
  refine ⟨?_, by omega⟩
  have z : (List.range n).take pre.length = pre := by
    rw [h, List.take_left']
    rfl
  have z2 : (List.range n).take pre.length = List.range pre.length := by
    rw [List.take_range]
    congr 1
    omega
  rw [ea, ← z2]
  exact z.symm
theorem split_len {n a : Nat} {pre post : List Nat} (h : List.range n = pre ++ a :: post) : pre.length = a ∧ a < n := by
  obtain ⟨h1, h2⟩ := range_split h
  rw [h1, List.length_range]
  exact ⟨rfl, h2⟩
/-- a walk over 0 .. n - 1 -/
theorem w_forN {fi : Fi} {γ : PyData → Ev → Option Ev} {S : List Nat} {fb : Fs} {e e1 : Ev} {Q : Fl → Prop} (n : Nat) (f : Nat → PyData) (J : Nat → Ev → Prop) (hi : fi e = some ((List.range n).map f, e1)) (h0 : J 0 e1)
    (h : ∀ (k : Nat), k < n → ∀ e, J k e → okS S e = true ∧ ∃ e2, γ (f k) e = some e2 ∧ wS fb e2 (loopK (J (k + 1)) Q)) (hq : ∀ e, J n e → Q (.nx e)) : wS (s_for fi γ S fb) e Q := by
  refine w_for (List.range n) f (fun pre e => J pre.length e) hi h0 (fun pre a post z e j => ?_) fun e j => hq e (by rw [List.length_range] at j; exact j)
  obtain ⟨z1, z2⟩ := split_len z
  rw [z1] at j
  obtain ⟨a1, e2, a2, a3⟩ := h a z2 e j
  refine ⟨a1, e2, a2, ?_⟩
  rw [List.length_append, z1]
  exact a3
/-- a walk over the items of a list -/
theorem w_forL {α : Type} [Inhabited α] {fi : Fi} {γ : PyData → Ev → Option Ev} {S : List Nat} {fb : Fs} {e e1 : Ev} {Q : Fl → Prop} (l : List α) (f : α → PyData) (J : Nat → Ev → Prop) (hi : fi e = some (l.map f, e1)) (h0 : J 0 e1)
    (h : ∀ (k : Nat), k < l.length → ∀ e, J k e → okS S e = true ∧ ∃ e2, γ (f (gv l (k + 1))) e = some e2 ∧ wS fb e2 (loopK (J (k + 1)) Q)) (hq : ∀ e, J l.length e → Q (.nx e)) : wS (s_for fi γ S fb) e Q := by
  have z : l.map f = (List.range l.length).map fun k => f (gv l (k + 1)) := by
    refine List.ext_getElem? fun i => ?_
    rw [List.getElem?_map, List.getElem?_map]
    by_cases hi : i < l.length
    · rw [gv_get hi, List.getElem?_range hi]
      rfl
    · rw [List.getElem?_eq_none (by omega), List.getElem?_eq_none (by rw [List.length_range]; omega)]
      rfl
  rw [z] at hi
  exact w_forN l.length _ J hi h0 h hq
theorem downI_perm (l : List Int) : (downI l).Perm l := List.mergeSort_perm l _
theorem downI_len (l : List Int) : (downI l).length = l.length := (downI_perm l).length_eq
theorem trg1 {fb : Fe} {e e1 : Ev} {n : Nat} (h : fb e = some (.im (.int ((n : Int) + 1)), e1)) (hn : n ≤ 1000000) : x_trg (g_rg2 (x_c (.int 1)) fb) e = some (.im (.tuple ((List.range n).map fun k => nD (k + 1))), e1) := by
  rw [r_x_trg, r_g_rg2, r_x_c]
  dsimp only
  rw [h]
  dsimp only
  rw [if_pos (rg1_ok hn), rgL1]
/-! lists of one's own lists -/
section
variable {e : Ev} {i j : Nat} {dss : List (Bool × List PyData)} {ds es : List PyData} {k : Int} {fk fv : Fe} {d : PyData} {Q : Fl → Prop}
theorem fzI_at {g : Ev → Option Nat} (h1 : e[i]? = some (some (.nl dss))) (h2 : g e = some j) (h3 : dss[j]? = some (false, ds)) (h4 : oneNl i e = true) (h5 : okS [i] e = true) : fzI i g e = e.set i (some (.nl (dss.set j (true, ds)))) := by
  unfold fzI
  rw [h1, h2]
  dsimp only
  rw [h3]
  dsimp only
  rw [h4, h5]
  rfl
theorem ixF_at {e' : Ev} (h1 : e[i]? = some (some (.nl dss))) (h2 : fk e = some (.im (.int k), e')) (h3 : ixN dss.length k = some j) : ixF i fk e = some j := by
  unfold ixF
  rw [h1, h2]
  exact h3
theorem x_ixn_at (h1 : e[i]? = some (some (.nl dss))) (h2 : fk e = some (.im (.int k), e)) (h3 : ixN dss.length k = some j) (h4 : dss[j]? = some (true, ds)) : x_ixn i fk e = some (.im (.list ds), e) := by
  unfold x_ixn
  have h0 : isNl e[i]? = true := by rw [h1]; rfl
  rw [if_pos h0, h2]
  dsimp only
  rw [h1]
  dsimp only
  rw [atI_of h3 h4]
theorem nlK_at (h1 : e[i]? = some (some (.nl dss))) (h2 : fk e = some (.im (.int k), e)) (h3 : ixN dss.length k = some j) : nlK i fk e = some (j, e) := by
  unfold nlK
  have h0 : isNl e[i]? = true := by rw [h1]; rfl
  rw [if_pos h0, h2]
  dsimp only
  rw [h1]
  dsimp only
  rw [h3]
theorem nlPut_at (h1 : e[i]? = some (some (.nl dss))) (h2 : dss[j]? = some (false, ds)) (h3 : oneNl i e = true) (h4 : okS [i] e = true) (h5 : ds.length + es.length ≤ 16777216) : nlPut i j es e = some (.nx (e.set i (some (.nl (dss.set j (false, ds ++ es)))))) := by
  unfold nlPut
  rw [h1]
  dsimp only
  rw [h2]
  dsimp only
  rw [h3, h4, okLen_yes h5]
  rfl
theorem w_nex {j : Nat} (h1 : e[i]? = some (some (.nl dss))) (h2 : fk e = some (.im (.int k), e)) (h3 : ixN dss.length k = some j) (h4 : fv e = some (.im d, e)) (h5 : itD d = some es) (h6 : dss[j]? = some (false, ds)) (h7 : oneNl i e = true) (h8 : okS [i] e = true)
    (h9 : ds.length + es.length ≤ 16777216) (q : Q (.nx (e.set i (some (.nl (dss.set j (false, ds ++ es))))))) : wS (s_nex i fk fv) e Q := by
  refine ⟨_, ?_, q⟩
  unfold s_nex
  rw [nlK_at h1 h2 h3]
  dsimp only
  rw [h4]
  dsimp only [frzR, lookR]
  rw [h5]
  exact nlPut_at h1 h6 h7 h8 h9
theorem w_nap {j : Nat} (h1 : e[i]? = some (some (.nl dss))) (h2 : fk e = some (.im (.int k), e)) (h3 : ixN dss.length k = some j) (h4 : fv e = some (.im d, e)) (h6 : dss[j]? = some (false, ds)) (h7 : oneNl i e = true) (h8 : okS [i] e = true)
    (h9 : ds.length + 1 ≤ 16777216) (q : Q (.nx (e.set i (some (.nl (dss.set j (false, ds ++ [d]))))))) : wS (s_nap i fk fv) e Q := by
  refine ⟨_, ?_, q⟩
  unfold s_nap
  rw [nlK_at h1 h2 h3]
  dsimp only
  rw [h4]
  dsimp only [frzR, imR]
  exact nlPut_at h1 h6 h7 h8 h9
theorem w_nw {fi : Fi} {n : Nat} {l : List PyData} (h1 : fi e = some (l, e)) (h2 : l.length = n) (h3 : okS [i] e = true) (h4 : n ≤ 16777216) (q : Q (.nx (e.set i (some (.nl (List.replicate n (false, []))))))) : wS (s_nw i fi j) e Q := by
  refine ⟨_, ?_, q⟩
  unfold s_nw
  rw [h1]
  dsimp only
  rw [h2, h3, okLen_yes h4]
  rfl
end
theorem cbE {x : Fe} {e e1 : Ev} {bs : List Bool} (h : x e = some (.ac (bs.map PyData.bool), e1)) : x_cb c_any (a_cons x a_nil) e = some (.im (.bool (bs.any id)), e1) := by
  simp [r_x_cb, r_argsD, r_a_cons, r_a_nil, h, lookAll, lookR, frzR, c_any, unB_map]
theorem cbMaxD {x : Fe} {e e1 : Ev} {ns : List Int} {k : Int} (h : x e = some (.ac (ns.map PyData.int), e1)) : x_maxDf k (a_cons x a_nil) e = some (.im (.int (maxO k ns)), e1) := by
  simp [n_mD, r_x_cb, r_argsD, r_a_cons, r_a_nil, h, lookAll, lookR, frzR, c_intsL, unI_ints]
theorem cbSortR {x : Fe} {e e1 : Ev} {ns : List Int} (h : x e = some (.ac (ns.map PyData.int), e1)) : x_sortedR (a_cons x a_nil) e = some (.ac ((downI ns).map PyData.int), e1) := by
  simp [n_sR, r_x_cb, r_argsD, r_a_cons, r_a_nil, h, lookAll, lookR, frzR, c_intsL, unI_ints]
theorem cbLen {x : Fe} {e e1 : Ev} {ds : List PyData} (h : x e = some (.ac ds, e1) ∨ x e = some (.im (.list ds), e1) ∨ x e = some (.im (.tuple ds), e1)) : x_cb c_len (a_cons x a_nil) e = some (.im (.int ds.length), e1) := by
  rcases h with h | h | h <;> simp [r_x_cb, r_argsD, r_a_cons, r_a_nil, h, lookAll, lookR, frzR, c_len]
theorem cbInt {x : Fe} {e e1 : Ev} {k : Int} (h : x e = some (.im (.int k), e1)) : x_cb c_int (a_cons x a_nil) e = some (.im (.int k), e1) := by
  simp [r_x_cb, r_argsD, r_a_cons, r_a_nil, h, lookAll, lookR, frzR, c_int]
end DL
namespace DL
open L2 PySem PySem.Spec PySem.W PyProof.Rows
section
variable {x y : Fe} {e e1 e2 : Ev} {a b d : PyData} {r : Rs} {φ : List PyData → Option Rs} {Q : Fl → Prop} {ds : List PyData} {fa : Fa} {i : Nat}
theorem cbI1 (h : x e = some (.im d, e1)) (k : φ [d] = some r) : x_cb φ (a_cons x a_nil) e = some (r, e1) := by
  simp [r_x_cb, r_argsD, r_a_cons, r_a_nil, h, lookAll, lookR, frzR, k]
theorem cbI2 (h1 : x e = some (.im a, e1)) (h2 : y e1 = some (.im b, e2)) (k : φ [a, b] = some r) : x_cb φ (a_cons x (a_cons y a_nil)) e = some (r, e2) := by
  simp [r_x_cb, r_argsD, r_a_cons, r_a_nil, h1, h2, lookAll, lookR, frzR, k]
theorem cbA1 (h : x e = some (.ac ds, e1)) (k : φ [.list ds] = some r) : x_cb φ (a_cons x a_nil) e = some (r, e1) := by
  simp [r_x_cb, r_argsD, r_a_cons, r_a_nil, h, lookAll, lookR, frzR, k]
theorem cbV1 (h : e[i]? = some (some (.ac ds))) (k : φ [.list ds] = some r) : x_cb φ (a_cons (x_var i) a_nil) e = some (r, e) := by
  simp [r_x_cb, r_argsD, r_a_cons, r_a_nil, r_x_var, h, lookAll, lookR, frzR, k]
theorem tupI (h : argsI fa e = some (ds, e1)) (hl : ds.length ≤ 16777216) : x_tup fa e = some (.im (.tuple ds), e1) := by
  rw [r_x_tup, h]
  dsimp only
  rw [if_pos (okLen_yes hl)]
theorem w_app (h : x e = some (.im d, e)) (hi : e[i]? = some (some (.ac ds))) (hl : ds.length + 1 ≤ 16777216) (q : Q (.nx (e.set i (some (.ac (ds ++ [d])))))) : wS (s_drop (x_app i x)) e Q := by
  refine w_drop (r := .im .none) ?_ q
  rw [r_x_app, hi]
  simp only [isAc, if_true, h, frzR, imR, hi]
  rw [if_pos (okLen_yes hl)]
theorem binV {φ : PyData → PyData → Option Rs} {g : Fe} (h1 : e[i]? = some (some (.ac ds))) (h2 : g e = some (.im b, e)) (h : φ (.list ds) b = some r) : x_bin φ (x_var i) g e = some (r, e) := by
  have h0 : x_var i e = some (.br i, e) := by rw [r_x_var, h1]
  rw [r_x_bin, r_two, h0]
  simp only [h2, look2, lookR, frzR, h1, h]
theorem iRng1 {m : Nat} (h : x e = some (.im (.int (m : Int)), e1)) (hm : m ≤ 1000000) : i_rng1 x e = some ((List.range m).map nD, e1) := i_rng1_at h hm
theorem iRngN {a b : Nat} {x y : Fe} (h1 : x e = some (.im (.int (a : Int)), e1)) (h2 : y e1 = some (.im (.int ((b : Int) + 1)), e2)) (ha : a ≤ 1000000) (hb : b ≤ 1000000) : i_rng2 x y e = some ((List.range (b + 1 - a)).map fun k => nD (a + k), e2) := by
  rw [r_i_rng2, h1]
  dsimp only
  rw [h2]
  dsimp only
  have c : (rgC (a : Int) && rgC ((b : Int) + 1)) = true := by
    rw [Bool.and_eq_true]
    exact ⟨decide_eq_true (by omega), decide_eq_true (by omega)⟩
  have e3 : rngD (a : Int) (b + 1 - a) 1 = (List.range (b + 1 - a)).map fun k => nD (a + k) := by
    unfold rngD
    refine List.map_congr_left fun k _ => ?_
    unfold nD
    rw [show ((a : Int) + (k : Int) * 1) = ((a + k : Nat) : Int) by omega]
  rw [if_pos c, show ((b : Int) + 1 - (a : Int)).toNat = b + 1 - a by omega, e3]
/-- n, n - 1, .., 1 -/
theorem iRngD {n : Nat} {x y z : Fe} {e3 : Ev} (h1 : x e = some (.im (.int (n : Int)), e1)) (h2 : y e1 = some (.im (.int 0), e2)) (h3 : z e2 = some (.im (.int (-1)), e3)) (hn : n ≤ 1000000) : i_rng3 x y z e = some ((List.range n).map fun k => nD (n - k), e3) := by
  rw [r_i_rng3, h1]
  dsimp only
  rw [h2]
  dsimp only
  rw [h3]
  dsimp only
  have c : (rgC (n : Int) && (rgC 0 && decide ((-1 : Int) = -1))) = true := by
    rw [Bool.and_eq_true, Bool.and_eq_true]
    exact ⟨decide_eq_true (by omega), decide_eq_true (by omega), rfl⟩
  have e4 : rngD (n : Int) n (-1) = (List.range n).map fun k => nD (n - k) := by
    unfold rngD
    refine List.map_congr_left fun k hk => ?_
    have := List.mem_range.mp hk
    unfold nD
    rw [show ((n : Int) + (k : Int) * -1) = ((n - k : Nat) : Int) by omega]
  rw [if_pos c, show ((n : Int) - 0).toNat = n by omega, e4]
theorem negI {k : Int} (h : x e = some (.im (.int k), e1)) : x_neg x e = some (.im (.int (-k)), e1) := by
  rw [r_x_neg, h]
end
end DL
namespace DL
open L2 PySem PySem.Spec PySem.W PyProof.Rows
theorem callKI {φ : List PyData → Option Rs} {π : List Nat} {fa fk : Fa} {e e1 e2 : Ev} {ds zs ds' : List PyData} {d : PyData} (h1 : argsI fa e = some (ds, e1)) (h2 : argsI fk e1 = some (zs, e2)) (hd : perm π (ds ++ zs) = ds') (h : φ ds' = some (.im d)) : x_callK φ π fa fk e = some (.im d, e2) := by
  unfold x_callK
  rw [h1]
  dsimp only
  rw [h2]
  dsimp only
  rw [hd, h]
theorem maxB_list {ns : List Int} (h : ns ≠ []) : c_maxB [.list (ns.map PyData.int)] = some (.im (.int (maxI ns))) := by
  cases ns with
  | nil => exact absurd rfl h
  | cons n ns =>
    unfold c_maxB c_maxA orC
    have q : c_max [.list ((n :: ns).map PyData.int)] = some (.im (.int (maxI (n :: ns)))) := by
      unfold c_max c_intsL
      dsimp only
      rw [unI_ints]
      rfl
    rw [q]
theorem maxB_tup {ns : List Int} (h : ns ≠ []) : c_maxB [.tuple (ns.map PyData.int)] = some (.im (.int (maxI ns))) := by
  cases ns with
  | nil => exact absurd rfl h
  | cons n ns =>
    unfold c_maxB c_maxA orC
    have q : c_maxT [.tuple ((n :: ns).map PyData.int)] = some (.im (.int (maxI (n :: ns)))) := by
      unfold c_maxT c_intsT
      dsimp only
      rw [unI_ints]
      rfl
    have q0 : c_max [.tuple ((n :: ns).map PyData.int)] = none := rfl
    rw [q0]
    dsimp only
    rw [q]
theorem maxI_cons (a b : Int) (r : List Int) : maxI (a :: b :: r) = max a (maxI (b :: r)) := rfl
theorem maxI_ge : ∀ {l : List Int} {x : Int}, x ∈ l → x ≤ maxI l
  | [], _, h => by cases h
  | [a], x, h => by
    rw [List.mem_singleton.mp h]
    exact Int.le_refl _
  | a :: b :: r, x, h => by
    rw [maxI_cons]
    rcases List.mem_cons.mp h with e | e
    · omega
    · have := maxI_ge e
      omega
theorem maxI_mem : ∀ {l : List Int}, l ≠ [] → maxI l ∈ l
  | [], h => absurd rfl h
  | [a], _ => List.mem_singleton.mpr rfl
  | a :: b :: r, _ => by
    rw [maxI_cons]
    by_cases z : maxI (b :: r) ≤ a
    · rw [show max a (maxI (b :: r)) = a by omega]
      exact List.mem_cons_self
    · rw [show max a (maxI (b :: r)) = maxI (b :: r) by omega]
      exact List.mem_cons_of_mem _ (maxI_mem (by simp))
theorem maxO_zero {l : List Int} (h : ∀ x ∈ l, 0 ≤ x) : maxI (0 :: l) = maxO 0 l := by
  cases l with
  | nil => rfl
  | cons a l =>
    rw [maxI_cons]
    have := maxI_ge (l := a :: l) List.mem_cons_self
    have := h a List.mem_cons_self
    show max 0 (maxI (a :: l)) = maxI (a :: l)
    omega
theorem maxO_le {l : List Int} {R : Int} (hR : 0 ≤ R) : maxO 0 l ≤ R ↔ ∀ x ∈ l, x ≤ R := by
  cases l with
  | nil => exact ⟨fun _ x h => (List.not_mem_nil h).elim, fun _ => hR⟩
  | cons a l =>
    show maxI (a :: l) ≤ R ↔ _
    constructor
    · intro h x hx
      have := maxI_ge hx
      omega
    · intro h
      exact h _ (maxI_mem (by simp))
end DL
namespace DL
open L2 PySem PySem.Spec PySem.W PyProof.Rows
/-! ### tuples of ints, in order -/
theorem lt_tups (a b : List Int) : dataLt (tZ a) (tZ b) = decide (a < b) := by
  have h := congrFun (congrFun dataLe_tups b) a
  have h2 : (!dataLt (tZ a) (tZ b)) = decide (b ≤ a) := h
  by_cases z : a < b
  · have n : ¬ b ≤ a := fun y => List.not_lt.mpr y z
    rw [decide_eq_false n] at h2
    rw [decide_eq_true z]
    generalize dataLt (tZ a) (tZ b) = q at h2 ⊢
    cases q
    · cases h2
    · rfl
  · rw [decide_eq_true (List.not_lt.mp z)] at h2
    rw [decide_eq_false z]
    generalize dataLt (tZ a) (tZ b) = q at h2 ⊢
    cases q
    · rfl
    · cases h2
theorem okOrd_tups (a b : List Int) : okOrd (tZ a) (tZ b) = true := by
  unfold okOrd
  rw [show alike (tZ a) (tZ b) = true from alike_tI a b]
  have d : (tZ a).depth ≤ 1 := depth_tI a
  show (true && (true && decide ((tZ a).depth ≤ 64))) = true
  rw [decide_eq_true (by omega : (tZ a).depth ≤ 64)]
  rfl
theorem e_gtT (a b : List Int) : q_gt (tZ a) (tZ b) = some (.im (.bool (decide (b < a)))) := by
  show (match p_gt (tZ a) (tZ b) with
    | some r => some r
    | none => (d_ord (fun a b => dataLt b a) (tZ a) (tZ b)).map Rs.im) = _
  have q : p_gt (tZ a) (tZ b) = none := rfl
  rw [q]
  show (d_ord (fun a b => dataLt b a) (tZ a) (tZ b)).map Rs.im = _
  unfold d_ord
  rw [if_pos (okOrd_tups a b)]
  show some (Rs.im (.bool (dataLt (tZ b) (tZ a)))) = _
  rw [lt_tups]
/-! the least of some -/
def minT (x : List Int) (xs : List (List Int)) : List Int := xs.foldl (fun a y => if y < a then y else a) x
theorem minD_tups : ∀ (xs : List (List Int)) (x : List Int), minD (tZ x) (xs.map tZ) = tZ (minT x xs)
  | [], _ => rfl
  | y :: ys, x => by
    show minD (if dataLt (tZ y) (tZ x) = true then tZ y else tZ x) (ys.map tZ) = tZ (minT (if y < x then y else x) ys)
    rw [lt_tups]
    by_cases z : y < x
    · rw [if_pos z, if_pos (decide_eq_true z)]
      exact minD_tups ys y
    · rw [if_neg z, if_neg (by rw [decide_eq_false z]; simp)]
      exact minD_tups ys x
theorem minT_mem : ∀ (xs : List (List Int)) (x : List Int), minT x xs ∈ x :: xs
  | [], x => List.mem_cons_self
  | y :: ys, x => by
    show minT (if y < x then y else x) ys ∈ _
    have h := minT_mem ys (if y < x then y else x)
    rcases List.mem_cons.mp h with e | e
    · rw [e]
      split
      · exact List.mem_cons_of_mem _ List.mem_cons_self
      · exact List.mem_cons_self
    · exact List.mem_cons_of_mem _ (List.mem_cons_of_mem _ e)
theorem minT_le : ∀ (xs : List (List Int)) (x : List Int), ∀ y ∈ x :: xs, minT x xs ≤ y
  | [], x, y, h => by
    rw [List.mem_singleton.mp h]
    exact List.le_refl _
  | z :: zs, x, y, h => by
    have ih := minT_le zs (if z < x then z else x)
    have hd : minT x (z :: zs) ≤ (if z < x then z else x) := ih _ List.mem_cons_self
    rcases List.mem_cons.mp h with e | e
    · rw [e]
      refine List.le_trans hd ?_
      split
      · rename_i w
        exact List.le_of_lt w
      · exact List.le_refl _
    · rcases List.mem_cons.mp e with e | e
      · rw [e]
        refine List.le_trans hd ?_
        split
        · exact List.le_refl _
        · rename_i w
          exact List.not_lt.mp w
      · exact ih y (List.mem_cons_of_mem _ e)
theorem plainAll_ints : ∀ l : List Int, PyData.plainAll (l.map PyData.int) = true
  | [] => by rw [List.map_nil, PyData.plainAll]
  | a :: l => by
    rw [List.map_cons, PyData.plainAll, plainAll_ints l]
    simp [PyData.plain]
theorem plainAll_tups : ∀ l : List (List Int), PyData.plainAll (l.map tZ) = true
  | [] => by rw [List.map_nil, PyData.plainAll]
  | a :: l => by
    rw [List.map_cons, PyData.plainAll, plainAll_tups l, PyData.plain, plainAll_ints]
    rfl
theorem depth_tups : ∀ l : List (List Int), PyData.depthAll (l.map tZ) ≤ 1
  | [] => by rw [List.map_nil, PyData.depthAll]; omega
  | a :: l => by
    rw [List.map_cons, PyData.depthAll]
    have := depth_tups l
    have d : (tZ a).depth ≤ 1 := depth_tI a
    omega
theorem minB_tups (x : List Int) (xs : List (List Int)) : c_minB [.list ((x :: xs).map tZ)] = some (.im (tZ (minT x xs))) := by
  have n1 : c_min [.list ((x :: xs).map tZ)] = none := rfl
  have n2 : c_minT [.list ((x :: xs).map tZ)] = none := rfl
  have ok : okMM ((x :: xs).map tZ) = true := by
    unfold okMM
    rw [plainAll_tups, decide_eq_true (Nat.le_trans (depth_tups (x :: xs)) (by omega)), Bool.and_true, Bool.and_true]
    unfold alikeB
    rw [List.all_eq_true]
    intro d hd
    obtain ⟨a, _, rfl⟩ := List.mem_map.mp hd
    rw [Bool.and_eq_true]
    refine ⟨rfl, ?_⟩
    rw [List.all_eq_true]
    intro d hd
    obtain ⟨b, _, rfl⟩ := List.mem_map.mp hd
    exact alike_tI a b
  unfold c_minB c_minA orC
  rw [n1, n2]
  show (if okMM ((x :: xs).map tZ) = true then some (Rs.im (minD (tZ x) (xs.map tZ))) else none) = _
  rw [if_pos ok, minD_tups]
/-! tuples of tuples, alike -/
theorem canLay_tups : ∀ l : List (List Int), PyData.canLayAll0 (l.map tZ) = true
  | [] => by rw [List.map_nil, PyData.canLayAll0]
  | a :: l => by
    rw [List.map_cons, PyData.canLayAll0, canLay_tups l, PyData.canLay0, canLay_ints]
    rfl
theorem shaped_tups (l : List (List Int)) : SeqAt.shaped (.tuple (l.map tZ)) = true := by
  unfold SeqAt.shaped
  rw [Bool.and_eq_true, PyData.canLay0, decide_eq_true_eq]
  refine ⟨canLay_tups l, ?_⟩
  show PyData.depthAll (l.map tZ) + 1 ≤ 64
  have := depth_tups l
  omega
theorem eqv_tups : ∀ (xs ys : List (List Int)), PyData.eqvAll (xs.map tZ) (ys.map tZ) = decide (xs = ys)
  | [], [] => (by simp [PyData.eqvAll])
  | [], y :: ys => (by simp [PyData.eqvAll])
  | x :: xs, [] => (by simp [PyData.eqvAll])
  | x :: xs, y :: ys => by
    rw [List.map_cons, List.map_cons, PyData.eqvAll, eqv_tups xs ys]
    have e : PyData.eqv (tZ x) (tZ y) = decide (x = y) := by
      show PyData.eqv (.tuple (x.map PyData.int)) (.tuple (y.map PyData.int)) = _
      rw [PyData.eqv, eqv_ints]
    rw [e]
    simp
theorem e_eqTT (xs ys : List (List Int)) : p_eq (.tuple (xs.map tZ)) (.tuple (ys.map tZ)) = some (.im (.bool (decide (xs = ys)))) := by
  unfold p_eq
  rw [shaped_tups xs, shaped_tups ys]
  show some (Rs.im (.bool (PyData.eqvAll _ _))) = _
  rw [eqv_tups]
end DL
namespace K15
open PySem PySem.Spec PyProof.Rows L2
def top (i : Nat) : Stmt := PySem.Challenge.pw_sincemarks_k15_whole_least_open_rows.main.body.getD i (.Pass ⟨0, 0, 0, 0⟩)
abbrev s_is_integer : Stmt := top 5
abbrev s_is_natural : Stmt := top 6
abbrev s_up_to : Stmt := top 9
abbrev s_is_pair : Stmt := top 10
abbrev s_bound_fault : Stmt := top 11
abbrev s_need_bounds : Stmt := top 12
abbrev s_need_version : Stmt := top 13
abbrev s_all_versions : Stmt := top 14
abbrev s_at_or_below : Stmt := top 15
abbrev s_falling : Stmt := top 16
abbrev s_row_after : Stmt := top 17
abbrev s_step_of : Stmt := top 18
abbrev s_near_elder : Stmt := top 19
abbrev s_walked : Stmt := top 20
abbrev s_goes_above : Stmt := top 21
abbrev s_is_heights : Stmt := top 23
abbrev s_bases_by : Stmt := top 24
abbrev s_open_at : Stmt := top 25
abbrev s_open_row : Stmt := top 26
abbrev s_rows_of : Stmt := top 28
abbrev s_walk_heights : Stmt := top 29
abbrev s_top_of : Stmt := top 30
abbrev s_can_keep : Stmt := top 31
abbrev s__law_draw : Stmt := top 33
abbrev s__law_same : Stmt := top 34
abbrev s__law_tree : Stmt := top 35
abbrev s__law_open_row : Stmt := top 36
abbrev s__law_heights : Stmt := top 37
abbrev s__law_walk : Stmt := top 38
abbrev s__law_any : Stmt := top 39
abbrev s__law_small : Stmt := top 40
abbrev s__law_told : Stmt := top 41
abbrev s__law_great : Stmt := top 42
abbrev s_law : Stmt := top 43
def d_is_integer : He.DefD := ⟨("is_integer", none), "is_integer", "is_integer", defArgs s_is_integer, defBody s_is_integer, defScope s_is_integer, [], []⟩
def d_is_natural : He.DefD := ⟨("is_natural", none), "is_natural", "is_natural", defArgs s_is_natural, defBody s_is_natural, defScope s_is_natural, [], []⟩
def d_up_to : He.DefD := ⟨("up_to", none), "up_to", "up_to", defArgs s_up_to, defBody s_up_to, defScope s_up_to, [], []⟩
def d_is_pair : He.DefD := ⟨("is_pair", none), "is_pair", "is_pair", defArgs s_is_pair, defBody s_is_pair, defScope s_is_pair, [], []⟩
def d_bound_fault : He.DefD := ⟨("bound_fault", none), "bound_fault", "bound_fault", defArgs s_bound_fault, defBody s_bound_fault, defScope s_bound_fault, [], []⟩
def d_need_bounds : He.DefD := ⟨("need_bounds", none), "need_bounds", "need_bounds", defArgs s_need_bounds, defBody s_need_bounds, defScope s_need_bounds, [], []⟩
def d_need_version : He.DefD := ⟨("need_version", none), "need_version", "need_version", defArgs s_need_version, defBody s_need_version, defScope s_need_version, [], []⟩
def d_all_versions : He.DefD := ⟨("all_versions", none), "all_versions", "all_versions", defArgs s_all_versions, defBody s_all_versions, defScope s_all_versions, [], []⟩
def d_at_or_below : He.DefD := ⟨("at_or_below", none), "at_or_below", "at_or_below", defArgs s_at_or_below, defBody s_at_or_below, defScope s_at_or_below, [], []⟩
def d_falling : He.DefD := ⟨("falling", none), "falling", "falling", defArgs s_falling, defBody s_falling, defScope s_falling, [], []⟩
def d_row_after : He.DefD := ⟨("row_after", none), "row_after", "row_after", defArgs s_row_after, defBody s_row_after, defScope s_row_after, [], []⟩
def d_step_of : He.DefD := ⟨("step_of", none), "step_of", "step_of", defArgs s_step_of, defBody s_step_of, defScope s_step_of, [], []⟩
def d_near_elder : He.DefD := ⟨("near_elder", none), "near_elder", "near_elder", defArgs s_near_elder, defBody s_near_elder, defScope s_near_elder, [], []⟩
def d_walked : He.DefD := ⟨("walked", none), "walked", "walked", defArgs s_walked, defBody s_walked, defScope s_walked, [], []⟩
def d_goes_above : He.DefD := ⟨("goes_above", none), "goes_above", "goes_above", defArgs s_goes_above, defBody s_goes_above, defScope s_goes_above, [], []⟩
def d_is_heights : He.DefD := ⟨("is_heights", none), "is_heights", "is_heights", defArgs s_is_heights, defBody s_is_heights, defScope s_is_heights, [], []⟩
def d_bases_by : He.DefD := ⟨("bases_by", none), "bases_by", "bases_by", defArgs s_bases_by, defBody s_bases_by, defScope s_bases_by, [], []⟩
def d_open_at : He.DefD := ⟨("open_at", none), "open_at", "open_at", defArgs s_open_at, defBody s_open_at, defScope s_open_at, [], []⟩
def d_open_row : He.DefD := ⟨("open_row", none), "open_row", "open_row", defArgs s_open_row, defBody s_open_row, defScope s_open_row, [], []⟩
def d_rows_of : He.DefD := ⟨("rows_of", none), "rows_of", "rows_of", defArgs s_rows_of, defBody s_rows_of, defScope s_rows_of, [], []⟩
def d_walk_heights : He.DefD := ⟨("walk_heights", none), "walk_heights", "walk_heights", defArgs s_walk_heights, defBody s_walk_heights, defScope s_walk_heights, [], []⟩
def d_top_of : He.DefD := ⟨("top_of", none), "top_of", "top_of", defArgs s_top_of, defBody s_top_of, defScope s_top_of, [], []⟩
def d_can_keep : He.DefD := ⟨("can_keep", none), "can_keep", "can_keep", defArgs s_can_keep, defBody s_can_keep, defScope s_can_keep, [], []⟩
def d__law_draw : He.DefD := ⟨("_law_draw", none), "_law_draw", "_law_draw", defArgs s__law_draw, defBody s__law_draw, defScope s__law_draw, [], []⟩
def d__law_same : He.DefD := ⟨("_law_same", none), "_law_same", "_law_same", defArgs s__law_same, defBody s__law_same, defScope s__law_same, [], []⟩
def d__law_tree : He.DefD := ⟨("_law_tree", none), "_law_tree", "_law_tree", defArgs s__law_tree, defBody s__law_tree, defScope s__law_tree, [], []⟩
def d__law_open_row : He.DefD := ⟨("_law_open_row", none), "_law_open_row", "_law_open_row", defArgs s__law_open_row, defBody s__law_open_row, defScope s__law_open_row, [], []⟩
def d__law_heights : He.DefD := ⟨("_law_heights", none), "_law_heights", "_law_heights", defArgs s__law_heights, defBody s__law_heights, defScope s__law_heights, [], []⟩
def d__law_walk : He.DefD := ⟨("_law_walk", none), "_law_walk", "_law_walk", defArgs s__law_walk, defBody s__law_walk, defScope s__law_walk, [], []⟩
def d__law_any : He.DefD := ⟨("_law_any", none), "_law_any", "_law_any", defArgs s__law_any, defBody s__law_any, defScope s__law_any, [], []⟩
def d__law_small : He.DefD := ⟨("_law_small", none), "_law_small", "_law_small", defArgs s__law_small, defBody s__law_small, defScope s__law_small, [], []⟩
def d__law_told : He.DefD := ⟨("_law_told", none), "_law_told", "_law_told", defArgs s__law_told, defBody s__law_told, defScope s__law_told, [], []⟩
def d__law_great : He.DefD := ⟨("_law_great", none), "_law_great", "_law_great", defArgs s__law_great, defBody s__law_great, defScope s__law_great, [], []⟩
def d_law : He.DefD := ⟨("law", none), "law", "law", defArgs s_law, defBody s_law, defScope s_law, [], []⟩
def fn : List He.DefD := [d_is_integer, d_is_natural, d_up_to, d_is_pair, d_bound_fault, d_need_bounds, d_need_version, d_all_versions, d_at_or_below, d_falling, d_row_after, d_step_of, d_near_elder, d_walked, d_goes_above, d_is_heights, d_bases_by, d_open_at, d_open_row, d_rows_of, d_walk_heights, d_top_of, d_can_keep, d__law_draw, d__law_same, d__law_tree, d__law_open_row, d__law_heights, d__law_walk, d__law_any, d__law_small, d__law_told, d__law_great, d_law]
def fa : List He.Fa := [.glo "is_integer", .glo "is_natural", .glo "up_to", .glo "is_pair", .glo "bound_fault", .glo "need_bounds", .glo "need_version", .glo "all_versions", .glo "at_or_below", .glo "falling", .glo "row_after", .glo "step_of", .glo "near_elder", .glo "walked", .glo "goes_above", .glo "is_heights", .glo "bases_by", .glo "open_at", .glo "open_row", .glo "rows_of", .glo "walk_heights", .glo "top_of", .glo "can_keep", .glo "_law_draw", .glo "_law_same", .glo "_law_tree", .glo "_law_open_row", .glo "_law_heights", .glo "_law_walk", .glo "_law_any", .glo "_law_small", .glo "_law_told", .glo "_law_great", .glo "law", .free "ValueError", .free "abs", .free "all", .free "any", .free "bool", .free "enumerate", .free "int", .free "isinstance", .free "len", .free "list", .free "max", .free "min", .free "range", .free "sorted", .free "tuple", .free "zip", .int "GREATEST_BOUND" 999]
def names0 : List Str := ["BookError", "GREATEST_BOUND", "MarkError", "NotUsable", "_law_any", "_law_draw", "_law_great", "_law_heights", "_law_open_row", "_law_same", "_law_small", "_law_told", "_law_tree", "_law_walk", "all_versions", "at_or_below", "bases_by", "bound_fault", "can_keep", "falling", "goes_above", "is_heights", "is_integer", "is_natural", "is_pair", "near_elder", "need_bounds", "need_version", "open_at", "open_row"]
def names1 : List Str := ["row_after", "rows_of", "step_of", "top_of", "up_to", "walk_heights", "walked"]
def names : List Str := names0 ++ names1
abbrev R : PySem.W.OpenRow := PySem.W.OpenLaw.row PySem.Challenge.rw_sincemarks_k15_whole_least_open_rows
abbrev hk : PySem.W.Hook := He.hookD 4 fa fn
def ob (s : PySem.W.SharedT) : He.AlD := He.obsDG 4 fa fn (HandSHeadRun.getT s)
theorem ob_eq (s : PySem.W.SharedT) : ob s = hk.obs s.abs := He.obsDG_eq (HandSHeadRun.getT_eq s)
theorem run (w : World) : HandSHeadRun.RunEq R (PySem.W.view R.prog [43]) hk ob 6000 names w := by
  intro os
  kernel_rfl
end K15
namespace K15
open PySem PySem.Spec PyProof.Rows L2 DL
def g_is_integer : Fs :=
  (s_ret (x_and (x_isi .int (x_var 0)) (x_not (x_isi .bool (x_var 0)))))
def F_is_integer : List PyData → Option Rs := runF 1 0 g_is_integer
def g_is_pair : Fs :=
  (s_ret (x_and (x_isi .tuple (x_var 0)) (x_bin p_eq (x_cb c_len (a_cons (x_var 0) a_nil)) (x_c (.int 2)))))
def F_is_pair : List PyData → Option Rs := runF 1 0 g_is_pair
def g_all_versions : Fs :=
  (s_ret (x_trg (g_rg2 (x_c (.int 1)) (x_bin p_add (x_cb c_len (a_cons (x_var 0) a_nil)) (x_c (.int 1))))))
def F_all_versions : List PyData → Option Rs := runF 1 0 g_all_versions
def g_at_or_below : Fs :=
  (s_seq (s_setF 3 (x_var 2))
  (s_seq (s_while (fuI 3) (t_of (x_bin q_gt (x_var 3) (x_var 1)))
  (s_setF 3 (x_ix (x_var 0) (x_bin p_sub (x_var 3) (x_c (.int 1))))))
  (s_seq (s_ret (x_bin p_eq (x_var 3) (x_var 1)))
  s_nx)))
def F_at_or_below : List PyData → Option Rs := runF 3 1 g_at_or_below
def g_falling : Fs :=
  (s_ret (x_cb c_tuple (a_cons (x_sortedR (a_cons (x_var 0) a_nil)) a_nil)))
def F_falling : List PyData → Option Rs := runF 1 0 g_falling
def g_row_after : Fs :=
  (s_seq (s_setF 3 (x_var 1))
  (s_seq (s_if (t_and (t_of (x_bin q_ge (x_cb c_len (a_cons (x_var 2) a_nil)) (x_var 0))) (t_of (x_bin q_ge (x_ix (x_var 2) (x_bin p_sub (x_var 0) (x_c (.int 1)))) (x_var 1))))
  (s_setF 3 (x_bin p_add (x_ix (x_var 2) (x_bin p_sub (x_var 0) (x_c (.int 1)))) (x_c (.int 1))))
  s_nx)
  (s_seq (s_ret (x_bin p_add (x_cb c_tuple (a_cons (x_lc (i_seq (x_var 2)) (g_name 4) (t_of (x_bin q_ge (x_var 4) (x_var 3))) (x_var 4) [4]) a_nil)) (x_tup (a_cons (x_var 3) a_nil))))
  s_nx)))
def F_row_after : List PyData → Option Rs := runF 3 2 g_row_after
def g_near_elder : Fs :=
  (s_seq (s_setF 3 (x_ix (x_var 0) (x_bin p_sub (x_var 2) (x_c (.int 1)))))
  (s_seq (s_while (fuI 3) (t_and (t_of (x_bin p_ne (x_var 3) (x_c (.int 0)))) (t_not (t_of (x_ix (x_var 1) (x_var 3)))))
  (s_setF 3 (x_ix (x_var 0) (x_bin p_sub (x_var 3) (x_c (.int 1))))))
  (s_seq (s_ret (x_var 3))
  s_nx)))
def F_near_elder : List PyData → Option Rs := runF 3 1 g_near_elder
def g__law_draw : Fs :=
  (s_seq (s_if (t_of (x_bin p_eq (x_cb c_len (a_cons (x_var 0) a_nil)) (x_c (.int 0))))
  (s_ret (x_lc (i_rng1 (x_var 2)) (g_name 6) t_yes (x_c (.int 0)) [6]))
  s_nx)
  (s_seq (s_setF 3 (x_cb c_int (a_cons (x_ix (x_var 0) (x_bin p_mod (x_cb c_int (a_cons (x_var 1) a_nil)) (x_cb c_len (a_cons (x_var 0) a_nil)))) a_nil)))
  (s_seq (s_set 4 (x_lst a_nil))
  (s_seq (s_if (t_and (t_of (x_bin q_lt (x_var 1) (x_cb c_len (a_cons (x_var 0) a_nil)))) (t_of (x_bin q_ge (x_cb c_abs (a_cons (x_var 3) a_nil)) (x_bin p_pow (x_c (.int 10)) (x_c (.int 18))))))
  (s_seq (s_for (i_rng1 (x_var 2)) (g_name 6) [6]
  (s_seq (s_drop (x_app 4 (x_bin p_mod (x_cb c_int (a_cons (x_var 3) a_nil)) (x_c (.int 9931)))))
  (s_seq (s_setF 3 (x_bin p_div (x_var 3) (x_c (.int 9931))))
  s_nx)))
  (s_seq (s_ret (x_var 4))
  s_nx))
  s_nx)
  (s_seq (s_setF 5 (x_bin p_mod (x_cb c_int (a_cons (x_bin p_add (x_bin p_add (x_bin p_add (x_bin p_mul (x_var 3) (x_c (.int 52774))) (x_bin p_mul (x_var 1) (x_c (.int 8087)))) (x_bin p_mul (x_cb c_len (a_cons (x_var 0) a_nil)) (x_c (.int 613)))) (x_c (.int 53))) a_nil)) (x_c (.int 2147482951))))
  (s_seq (s_for (i_rng1 (x_var 2)) (g_name 6) [6]
  (s_seq (s_setF 5 (x_bin p_mod (x_cb c_int (a_cons (x_bin p_add (x_bin p_mul (x_var 5) (x_c (.int 30269))) (x_c (.int 6689))) a_nil)) (x_c (.int 2147483423))))
  (s_seq (s_drop (x_app 4 (x_bin p_mod (x_cb c_int (a_cons (x_bin p_div (x_var 5) (x_c (.int 19))) a_nil)) (x_c (.int 9931)))))
  s_nx)))
  (s_seq (s_ret (x_var 4))
  s_nx)))))))
def F__law_draw : List PyData → Option Rs := runF 3 4 g__law_draw
def g__law_tree : Fs :=
  (s_seq (s_setF 2 (x_bin p_mod (x_cb c_int (a_cons (x_ix (x_var 0) (x_c (.int 0))) a_nil)) (x_c (.int 6))))
  (s_seq (s_set 3 (x_lst a_nil))
  (s_seq (s_for (i_rng1 (x_var 1)) (g_name 4) [4]
  (s_seq (s_setF 5 (x_cb c_int (a_cons (x_ix (x_var 0) (x_bin p_add (x_c (.int 1)) (x_var 4))) a_nil)))
  (s_seq (s_if (t_of (x_bin q_lt (x_var 2) (x_c (.int 2))))
  (s_drop (x_app 3 (x_bin p_mod (x_var 5) (x_bin p_add (x_var 4) (x_c (.int 1))))))
  (s_if (t_of (x_bin p_eq (x_var 2) (x_c (.int 2))))
  (s_drop (x_app 3 (x_cb c_max2 (a_cons (x_c (.int 0)) (a_cons (x_bin p_sub (x_var 4) (x_bin p_mod (x_var 5) (x_c (.int 2)))) a_nil)))))
  (s_if (t_and (t_of (x_bin p_eq (x_var 2) (x_c (.int 3)))) (t_of (x_bin q_gt (x_bin p_mod (x_var 5) (x_c (.int 7))) (x_c (.int 0)))))
  (s_drop (x_app 3 (x_var 4)))
  (s_if (t_of (x_bin p_eq (x_var 2) (x_c (.int 4))))
  (s_drop (x_app 3 (x_cb c_max2 (a_cons (x_c (.int 0)) (a_cons (x_bin p_sub (x_var 4) (x_bin p_mod (x_var 5) (x_c (.int 3)))) a_nil)))))
  (s_drop (x_app 3 (x_cb c_min2 (a_cons (x_var 4) (a_cons (x_bin p_mod (x_var 5) (x_c (.int 2))) a_nil)))))))))
  s_nx)))
  (s_seq (s_ret (x_cb c_tuple (a_cons (x_var 3) a_nil)))
  s_nx))))
def F__law_tree : List PyData → Option Rs := runF 2 4 g__law_tree
def g__law_open_row : Fs :=
  (s_seq (s_set 4 (x_lst a_nil))
  (s_seq (s_for (i_rng2 (x_var 2) (x_bin p_add (x_cb c_len (a_cons (x_var 0) a_nil)) (x_c (.int 1)))) (g_name 5) [5]
  (s_seq (s_setF 6 (x_var 5))
  (s_seq (s_setF 7 (x_ix (x_var 1) (x_bin p_sub (x_var 5) (x_var 3))))
  (s_seq (s_while (fuI 6) (t_and (t_of (x_bin q_gt (x_var 6) (x_var 2))) (t_and (t_of (x_bin q_ge (x_ix (x_var 0) (x_bin p_sub (x_var 6) (x_c (.int 1)))) (x_var 2))) (t_of (x_bin q_le (x_ix (x_var 1) (x_bin p_sub (x_ix (x_var 0) (x_bin p_sub (x_var 6) (x_c (.int 1)))) (x_var 3))) (x_var 7)))))
  (s_setF 6 (x_ix (x_var 0) (x_bin p_sub (x_var 6) (x_c (.int 1))))))
  (s_seq (s_if (t_of (x_bin p_eq (x_var 6) (x_var 2)))
  (s_drop (x_app 4 (x_var 7)))
  s_nx)
  s_nx)))))
  (s_seq (s_ret (x_cb c_tuple (a_cons (x_sortedR (a_cons (x_var 4) a_nil)) a_nil)))
  s_nx)))
def F__law_open_row : List PyData → Option Rs := runF 4 4 g__law_open_row
def g__law_walk : Fs :=
  (s_seq (s_set 2 (x_lc (i_rng1 (x_bin p_add (x_cb c_len (a_cons (x_var 0) a_nil)) (x_c (.int 1)))) (g_name 4) t_yes (x_lst a_nil) [4]))
  (s_seq (s_set 3 (x_lst a_nil))
  (s_seq (s_for (i_rng3 (x_cb c_len (a_cons (x_var 0) a_nil)) (x_c (.int 0)) (x_neg (x_c (.int 1)))) (g_name 4) [4]
  (s_seq (s_setF 5 (x_sortedR (a_cons (x_ix (x_var 2) (x_var 4)) a_nil)))
  (s_seq (s_setF 6 (x_ix (x_ix (x_ix (x_var 1) (x_c (.int 1))) (x_bin p_sub (x_var 4) (x_c (.int 1)))) (x_c (.int 0))))
  (s_seq (s_setF 7 (x_bin p_sub (x_bin p_add (x_ix (x_var 1) (x_c (.int 0))) (x_c (.int 1))) (x_ix (x_ix (x_ix (x_var 1) (x_c (.int 1))) (x_bin p_sub (x_var 4) (x_c (.int 1)))) (x_c (.int 1)))))
  (s_seq (s_if (t_of (x_bin q_ge (x_cb c_len (a_cons (x_var 5) a_nil)) (x_var 6)))
  (s_setF 7 (x_cb c_max2 (a_cons (x_var 7) (a_cons (x_bin p_add (x_ix (x_var 5) (x_bin p_sub (x_var 6) (x_c (.int 1)))) (x_c (.int 1))) a_nil))))
  s_nx)
  (s_seq (s_setF 8 (x_bin p_add (x_lc (i_seq (x_var 5)) (g_name 9) (t_of (x_bin q_ge (x_var 9) (x_var 7))) (x_var 9) [9]) (x_lst (a_cons (x_var 7) a_nil))))
  (s_seq (s_drop (x_app 3 (x_cb c_tuple (a_cons (x_var 8) a_nil))))
  (s_seq (s_put 2 (x_bin p_add (x_ix (x_var 2) (x_ix (x_var 0) (x_bin p_sub (x_var 4) (x_c (.int 1))))) (x_var 8)) (x_ix (x_var 0) (x_bin p_sub (x_var 4) (x_c (.int 1)))))
  s_nx))))))))
  (s_seq (s_ret (x_cb c_tuple (a_cons (x_rvs (x_var 3)) a_nil)))
  s_nx))))
def F__law_walk : List PyData → Option Rs := runF 2 8 g__law_walk
def g__law_any : Fs :=
  (s_seq (s_set 3 (x_lst a_nil))
  (s_seq (s_for (i_rng1 (x_var 1)) (g_name 4) [4]
  (s_seq (s_setF 5 (x_cb c_int (a_cons (x_ix (x_var 0) (x_var 4)) a_nil)))
  (s_seq (s_drop (x_app 3 (x_tup (a_cons (x_bin p_add (x_c (.int 1)) (x_ix (x_tup (a_cons (x_bin p_mod (x_var 5) (x_c (.int 2))) (a_cons (x_bin p_mod (x_var 5) (x_c (.int 3))) (a_cons (x_c (.int 0)) (a_cons (x_bin p_mod (x_var 5) (x_c (.int 4))) a_nil))))) (x_bin p_mod (x_cb c_int (a_cons (x_bin p_div (x_var 5) (x_c (.int 12))) a_nil)) (x_c (.int 4))))) (a_cons (x_bin p_add (x_c (.int 1)) (x_bin p_mod (x_cb c_int (a_cons (x_bin p_div (x_var 5) (x_c (.int 50))) a_nil)) (x_var 2))) a_nil)))))
  s_nx)))
  (s_seq (s_ret (x_tup (a_cons (x_var 2) (a_cons (x_cb c_tuple (a_cons (x_var 3) a_nil)) a_nil))))
  s_nx)))
def F__law_any : List PyData → Option Rs := runF 3 3 g__law_any
def g_is_natural : Fs :=
  (s_ret (x_and (x_call F_is_integer [] (a_cons (x_var 0) a_nil)) (x_bin q_ge (x_var 0) (x_c (.int 1)))))
def F_is_natural : List PyData → Option Rs := runF 1 0 g_is_natural
def g_step_of : Fs :=
  (s_seq (s_asg (g_tup [3, 4]) [3, 4] (x_var 0))
  (s_seq (s_asg (g_tup [5, 6]) [5, 6] (x_ix (x_var 4) (x_bin p_sub (x_var 1) (x_c (.int 1)))))
  (s_seq (s_ret (x_call F_row_after [] (a_cons (x_var 5) (a_cons (x_bin p_sub (x_bin p_add (x_var 3) (x_c (.int 1))) (x_var 6)) (a_cons (x_call F_falling [] (a_cons (x_var 2) a_nil)) a_nil)))))
  s_nx)))
def F_step_of : List PyData → Option Rs := runF 3 4 g_step_of
def g__law_heights : Fs :=
  (s_seq (s_setF 3 (x_lst (a_cons (x_tup (a_cons (x_tup a_nil) (a_cons (x_tup a_nil) a_nil))) a_nil)))
  (s_seq (s_for (i_rng3 (x_cb c_len (a_cons (x_var 0) a_nil)) (x_c (.int 0)) (x_neg (x_c (.int 1)))) (g_name 4) [4]
  (s_seq (s_setF 5 (x_ix (x_ix (x_ix (x_var 1) (x_c (.int 1))) (x_bin p_sub (x_var 4) (x_c (.int 1)))) (x_c (.int 0))))
  (s_seq (s_setF 6 (x_bin p_sub (x_bin p_add (x_ix (x_var 1) (x_c (.int 0))) (x_c (.int 1))) (x_ix (x_ix (x_ix (x_var 1) (x_c (.int 1))) (x_bin p_sub (x_var 4) (x_c (.int 1)))) (x_c (.int 1)))))
  (s_seq (s_set 7 (x_lst a_nil))
  (s_seq (s_for (i_seq (x_cb c_list (a_cons (x_var 3) a_nil))) (g_name 8) [8]
  (s_for (i_rng2 (x_var 6) (x_bin p_add (x_var 2) (x_c (.int 1)))) (g_name 9) [9]
  (s_seq (s_setF 10 (x_bin p_add (x_tup (a_cons (x_var 9) a_nil)) (x_ix (x_var 8) (x_c (.int 0)))))
  (s_seq (s_setF 11 (x_call F__law_open_row [] (a_cons (x_var 0) (a_cons (x_var 10) (a_cons (x_var 4) (a_cons (x_var 4) a_nil))))))
  (s_seq (s_if (t_of (x_bin q_le (x_cb c_len (a_cons (x_var 11) a_nil)) (x_var 5)))
  (s_drop (x_app 7 (x_tup (a_cons (x_var 10) (a_cons (x_bin p_add (x_tup (a_cons (x_var 11) a_nil)) (x_ix (x_var 8) (x_c (.int 1)))) a_nil)))))
  s_nx)
  s_nx)))))
  (s_seq (s_fz 7 (s_setF 3 (x_var 7)))
  s_nx))))))
  (s_seq (s_ret (x_var 3))
  s_nx)))
def F__law_heights : List PyData → Option Rs := runF 3 9 g__law_heights
def g_up_to : Fs :=
  (s_ret (x_and (x_call F_is_natural [] (a_cons (x_var 0) a_nil)) (x_bin q_le (x_var 0) (x_var 1))))
def F_up_to : List PyData → Option Rs := runF 2 0 g_up_to
def g_walked : Fs :=
  (s_seq (s_set 3 (x_rep (a_cons (x_c (.bool false)) a_nil) (x_bin p_add (x_cb c_len (a_cons (x_var 0) a_nil)) (x_c (.int 1)))))
  (s_seq (s_for (i_seq (x_var 2)) (g_name 4) [4]
  (s_put 3 (x_c (.bool true)) (x_var 4)))
  (s_seq (s_nw 5 (i_rng1 (x_bin p_add (x_cb c_len (a_cons (x_var 0) a_nil)) (x_c (.int 1)))) 8)
  (s_seq (s_set 6 (x_lst a_nil))
  (s_seq (s_for (i_seq (x_rvs (x_var 2))) (g_name 4) [4]
  (s_seq (s_nfz 5 (ixF 5 (x_var 4)) (s_setF 7 (x_call F_step_of [] (a_cons (x_var 1) (a_cons (x_var 4) (a_cons (x_ixn 5 (x_var 4)) a_nil))))))
  (s_seq (s_drop (x_app 6 (x_tup (a_cons (x_var 4) (a_cons (x_var 7) a_nil)))))
  (s_seq (s_fz 3 (s_nex 5 (x_call F_near_elder [] (a_cons (x_var 0) (a_cons (x_var 3) (a_cons (x_var 4) a_nil)))) (x_var 7)))
  s_nx))))
  (s_seq (s_ret (x_var 6))
  s_nx))))))
def F_walked : List PyData → Option Rs := runF 3 6 g_walked
def g_is_heights : Fs :=
  (s_seq (s_if (t_or (t_not (t_of (x_isi .tuple (x_var 1)))) (t_of (x_bin p_ne (x_cb c_len (a_cons (x_var 1) a_nil)) (x_cb c_len (a_cons (x_var 0) a_nil)))))
  (s_ret (x_c (.bool false)))
  s_nx)
  (s_seq (s_ret (x_cb c_all (a_cons (x_lc (i_seq (x_var 1)) (g_name 2) t_yes (x_call F_is_natural [] (a_cons (x_var 2) a_nil)) [2]) a_nil)))
  s_nx))
def F_is_heights : List PyData → Option Rs := runF 2 1 g_is_heights
def g_bound_fault : Fs :=
  (s_seq (s_if (t_not (t_of (x_call F_is_pair [] (a_cons (x_var 1) a_nil))))
  (s_ret (x_tup (a_cons (x_c (.str "shape")) (a_cons (x_neg (x_c (.int 1))) a_nil))))
  s_nx)
  (s_seq (s_asg (g_tup [2, 3]) [2, 3] (x_var 1))
  (s_seq (s_if (t_not (t_of (x_call F_up_to [] (a_cons (x_var 2) (a_cons (x_c (.int 999)) a_nil)))))
  (s_ret (x_tup (a_cons (x_c (.str "roof")) (a_cons (x_c (.int 0)) a_nil))))
  s_nx)
  (s_seq (s_if (t_or (t_not (t_of (x_isi .tuple (x_var 3)))) (t_of (x_bin p_ne (x_cb c_len (a_cons (x_var 3) a_nil)) (x_cb c_len (a_cons (x_var 0) a_nil)))))
  (s_ret (x_tup (a_cons (x_c (.str "many")) (a_cons (x_c (.int 1)) a_nil))))
  s_nx)
  (s_seq (s_for (i_enum (x_var 3)) (g_tup [4, 5]) [4, 5]
  (s_seq (s_if (t_not (t_of (x_call F_is_pair [] (a_cons (x_var 5) a_nil))))
  (s_ret (x_tup (a_cons (x_c (.str "pair")) (a_cons (x_var 4) a_nil))))
  s_nx)
  (s_seq (s_if (t_not (t_of (x_call F_up_to [] (a_cons (x_ix (x_var 5) (x_c (.int 0))) (a_cons (x_c (.int 999)) a_nil)))))
  (s_ret (x_tup (a_cons (x_c (.str "width")) (a_cons (x_var 4) a_nil))))
  s_nx)
  (s_seq (s_if (t_not (t_of (x_call F_up_to [] (a_cons (x_ix (x_var 5) (x_c (.int 1))) (a_cons (x_var 2) a_nil)))))
  (s_ret (x_tup (a_cons (x_c (.str "reach")) (a_cons (x_var 4) a_nil))))
  s_nx)
  s_nx))))
  (s_seq (s_ret (x_c .none))
  s_nx))))))
def F_bound_fault : List PyData → Option Rs := runF 2 4 g_bound_fault
def g_need_version : Fs :=
  (s_if (t_not (t_of (x_call F_up_to [] (a_cons (x_var 1) (a_cons (x_cb c_len (a_cons (x_var 0) a_nil)) a_nil)))))
  s_no
  s_nx)
def F_need_version : List PyData → Option Rs := runF 2 0 g_need_version
def g_goes_above : Fs :=
  (s_ret (x_cb c_any (a_cons (x_lc (i_seq (x_call F_walked [] (a_cons (x_var 0) (a_cons (x_var 1) (a_cons (x_var 2) a_nil))))) (g_name 3) t_yes (x_bin q_gt (x_ix (x_ix (x_var 3) (x_c (.int 1))) (x_c (.int 0))) (x_ix (x_var 1) (x_c (.int 0)))) [3]) a_nil)))
def F_goes_above : List PyData → Option Rs := runF 3 1 g_goes_above
def g_bases_by : Fs :=
  (s_seq (s_if (t_not (t_of (x_call F_is_heights [] (a_cons (x_var 0) (a_cons (x_var 1) a_nil)))))
  s_no
  s_nx)
  (s_seq (s_set 2 (x_lst a_nil))
  (s_seq (s_for (i_zip (x_var 1) (x_var 0)) (g_tup [3, 4]) [3, 4]
  (s_seq (s_setF 5 (x_var 4))
  (s_seq (s_while (fuI 5) (t_and (t_of (x_bin p_ne (x_var 5) (x_c (.int 0)))) (t_of (x_bin q_le (x_ix (x_var 1) (x_bin p_sub (x_var 5) (x_c (.int 1)))) (x_var 3))))
  (s_setF 5 (x_ix (x_var 0) (x_bin p_sub (x_var 5) (x_c (.int 1))))))
  (s_seq (s_drop (x_app 2 (x_var 5)))
  s_nx))))
  (s_seq (s_ret (x_cb c_tuple (a_cons (x_var 2) a_nil)))
  s_nx))))
def F_bases_by : List PyData → Option Rs := runF 2 4 g_bases_by
def g_need_bounds : Fs :=
  (s_if (t_of (x_bin p_isnot (x_call F_bound_fault [] (a_cons (x_var 0) (a_cons (x_var 1) a_nil))) (x_c .none)))
  s_no
  s_nx)
def F_need_bounds : List PyData → Option Rs := runF 2 0 g_need_bounds
def g_open_at : Fs :=
  (s_seq (s_setF 3 (x_call F_bases_by [] (a_cons (x_var 0) (a_cons (x_var 1) a_nil))))
  (s_seq (s_drop (x_call F_need_version [] (a_cons (x_var 0) (a_cons (x_var 2) a_nil))))
  (s_seq (s_set 4 (x_lst a_nil))
  (s_seq (s_for (i_rng2 (x_var 2) (x_bin p_add (x_cb c_len (a_cons (x_var 0) a_nil)) (x_c (.int 1)))) (g_name 5) [5]
  (s_if (t_and (t_of (x_bin q_lt (x_ix (x_var 3) (x_bin p_sub (x_var 5) (x_c (.int 1)))) (x_var 2))) (t_of (x_call F_at_or_below [] (a_cons (x_var 0) (a_cons (x_var 2) (a_cons (x_var 5) a_nil))))))
  (s_drop (x_app 4 (x_var 5)))
  s_nx))
  (s_seq (s_ret (x_cb c_tuple (a_cons (x_var 4) a_nil)))
  s_nx)))))
def F_open_at : List PyData → Option Rs := runF 3 3 g_open_at
def g_open_row : Fs :=
  (s_ret (x_call F_falling [] (a_cons (x_lc (i_seq (x_call F_open_at [] (a_cons (x_var 0) (a_cons (x_var 1) (a_cons (x_var 2) a_nil))))) (g_name 3) t_yes (x_ix (x_var 1) (x_bin p_sub (x_var 3) (x_c (.int 1)))) [3]) a_nil)))
def F_open_row : List PyData → Option Rs := runF 3 1 g_open_row
def g_rows_of : Fs :=
  (s_seq (s_drop (x_call F_need_bounds [] (a_cons (x_var 0) (a_cons (x_var 1) a_nil))))
  (s_seq (s_setF 2 (x_call F_walked [] (a_cons (x_var 0) (a_cons (x_var 1) (a_cons (x_call F_all_versions [] (a_cons (x_var 0) a_nil)) a_nil)))))
  (s_seq (s_ret (x_cb c_tuple (a_cons (x_lc (i_seq (x_rvs (x_var 2))) (g_tup [3, 4]) t_yes (x_var 4) [3, 4]) a_nil)))
  s_nx)))
def F_rows_of : List PyData → Option Rs := runF 2 3 g_rows_of
def g_can_keep : Fs :=
  (s_seq (s_drop (x_call F_need_bounds [] (a_cons (x_var 0) (a_cons (x_var 1) a_nil))))
  (s_seq (s_ret (x_not (x_call F_goes_above [] (a_cons (x_var 0) (a_cons (x_var 1) (a_cons (x_call F_all_versions [] (a_cons (x_var 0) a_nil)) a_nil))))))
  s_nx))
def F_can_keep : List PyData → Option Rs := runF 2 0 g_can_keep
def g_walk_heights : Fs :=
  (s_ret (x_cb c_tuple (a_cons (x_lc (i_seq (x_call F_rows_of [] (a_cons (x_var 0) (a_cons (x_var 1) a_nil)))) (g_name 2) t_yes (x_ix (x_var 2) (x_neg (x_c (.int 1)))) [2]) a_nil)))
def F_walk_heights : List PyData → Option Rs := runF 2 1 g_walk_heights
def g_top_of : Fs :=
  (s_ret (x_maxDf 0 (a_cons (x_lc (i_seq (x_call F_rows_of [] (a_cons (x_var 0) (a_cons (x_var 1) a_nil)))) (g_name 2) t_yes (x_ix (x_var 2) (x_c (.int 0))) [2]) a_nil)))
def F_top_of : List PyData → Option Rs := runF 2 1 g_top_of
def R__law_same : Nat → List PyData → Option Rs
  | 0 => fun _ => none
  | N + 1 => runF 2 1 (s_seq (s_if (t_of (x_isi .tuple (x_var 1)))
  (s_seq (s_if (t_or (t_not (t_of (x_isi .tuple (x_var 0)))) (t_of (x_bin p_ne (x_cb c_len (a_cons (x_var 0) a_nil)) (x_cb c_len (a_cons (x_var 1) a_nil)))))
  (s_ret (x_c (.bool false)))
  s_nx)
  (s_seq (s_for (i_rng1 (x_cb c_len (a_cons (x_var 1) a_nil))) (g_name 2) [2]
  (s_if (t_not (t_of (x_call (R__law_same N) [] (a_cons (x_ix (x_var 0) (x_var 2)) (a_cons (x_ix (x_var 1) (x_var 2)) a_nil)))))
  (s_ret (x_c (.bool false)))
  s_nx))
  (s_seq (s_ret (x_c (.bool true)))
  s_nx)))
  s_nx)
  (s_seq (s_if (t_of (x_isi .bool (x_var 1)))
  (s_ret (x_and (x_isi .bool (x_var 0)) (x_bin p_eq (x_var 0) (x_var 1))))
  s_nx)
  (s_seq (s_ret (x_and (x_isi .int (x_var 0)) (x_and (x_not (x_isi .bool (x_var 0))) (x_bin p_eq (x_var 0) (x_var 1)))))
  s_nx)))
theorem len__law_same : ∀ N ds, (R__law_same N ds).isSome = true → ds.length = 2
  | 0 => fun _ h => nomatch h
  | N + 1 => runF_len
def F__law_same : List PyData → Option Rs := R__law_same 8
def g__law_small : Fs :=
  (s_seq (s_setF 1 (x_call F__law_draw [] (a_cons (x_var 0) (a_cons (x_c (.int 0)) (a_cons (x_c (.int 5)) a_nil)))))
  (s_seq (s_setF 2 (x_ix (x_tup (a_cons (x_c (.int 3)) (a_cons (x_c (.int 4)) (a_cons (x_c (.int 2)) (a_cons (x_c (.int 5)) (a_cons (x_c (.int 4)) (a_cons (x_c (.int 3)) (a_cons (x_c (.int 4)) (a_cons (x_c (.int 1)) (a_cons (x_c (.int 5)) (a_cons (x_c (.int 4)) (a_cons (x_c (.int 0)) (a_cons (x_c (.int 3)) a_nil))))))))))))) (x_bin p_mod (x_cb c_int (a_cons (x_ix (x_var 1) (x_c (.int 0))) a_nil)) (x_c (.int 12)))))
  (s_seq (s_setF 3 (x_call F__law_tree [] (a_cons (x_call F__law_draw [] (a_cons (x_var 0) (a_cons (x_c (.int 1)) (a_cons (x_c (.int 6)) a_nil)))) (a_cons (x_var 2) a_nil))))
  (s_seq (s_setF 4 (x_ix (x_tup (a_cons (x_c (.int 5)) (a_cons (x_c (.int 5)) (a_cons (x_c (.int 5)) (a_cons (x_c (.int 5)) (a_cons (x_c (.int 4)) (a_cons (x_c (.int 3)) a_nil))))))) (x_var 2)))
  (s_seq (s_setF 5 (x_bin p_add (x_c (.int 1)) (x_bin p_mod (x_cb c_int (a_cons (x_ix (x_var 1) (x_c (.int 1))) a_nil)) (x_cb c_min2 (a_cons (x_c (.int 4)) (a_cons (x_var 4) a_nil))))))
  (s_seq (s_setF 6 (x_call F__law_any [] (a_cons (x_call F__law_draw [] (a_cons (x_var 0) (a_cons (x_c (.int 2)) (a_cons (x_c (.int 6)) a_nil)))) (a_cons (x_var 2) (a_cons (x_var 5) a_nil)))))
  (s_seq (s_setF 7 (x_cb c_min2 (a_cons (x_var 4) (a_cons (x_bin p_add (x_var 5) (x_bin p_mod (x_cb c_int (a_cons (x_ix (x_var 1) (x_c (.int 2))) a_nil)) (x_c (.int 2)))) a_nil))))
  (s_seq (s_setF 8 (x_call F__law_heights [] (a_cons (x_var 3) (a_cons (x_var 6) (a_cons (x_var 7) a_nil)))))
  (s_seq (s_setF 9 (x_call F_top_of [] (a_cons (x_var 3) (a_cons (x_var 6) a_nil))))
  (s_seq (s_setF 10 (x_lc (i_seq (x_var 8)) (g_name 13) (t_of (x_bin q_le (x_cb c_maxB (a_cons (x_bin p_add (x_tup (a_cons (x_c (.int 1)) a_nil)) (x_ix (x_var 13) (x_c (.int 0)))) a_nil)) (x_var 5))) (x_var 13) [13]))
  (s_seq (s_if (t_not (t_of (x_call F__law_same [] (a_cons (x_call F_can_keep [] (a_cons (x_var 3) (a_cons (x_var 6) a_nil))) (a_cons (x_bin q_gt (x_cb c_len (a_cons (x_var 10) a_nil)) (x_c (.int 0))) a_nil)))))
  (s_ret (x_c (.bool false)))
  s_nx)
  (s_seq (s_if (t_of (x_bin p_eq (x_cb c_len (a_cons (x_var 8) a_nil)) (x_c (.int 0))))
  (s_ret (x_and (x_isi .int (x_var 9)) (x_and (x_not (x_isi .bool (x_var 9))) (x_bin q_gt (x_var 9) (x_var 7)))))
  s_nx)
  (s_seq (s_setF 11 (x_cb c_tuple (a_cons (x_lc (i_rng1 (x_var 2)) (g_name 14) t_yes (x_cb c_minB (a_cons (x_lc (i_seq (x_var 8)) (g_name 13) t_yes (x_ix (x_ix (x_var 13) (x_c (.int 1))) (x_var 14)) [13]) a_nil)) [14]) a_nil)))
  (s_seq (s_if (t_or (t_not (t_of (x_call F__law_same [] (a_cons (x_call F_rows_of [] (a_cons (x_var 3) (a_cons (x_var 6) a_nil))) (a_cons (x_var 11) a_nil))))) (t_not (t_of (x_call F__law_same [] (a_cons (x_callK F_rows_of [1, 0] a_nil (a_cons (x_var 6) (a_cons (x_var 3) a_nil))) (a_cons (x_var 11) a_nil))))))
  (s_ret (x_c (.bool false)))
  s_nx)
  (s_seq (s_setF 12 (x_call F_walk_heights [] (a_cons (x_var 3) (a_cons (x_var 6) a_nil))))
  (s_seq (s_if (t_not (t_of (x_call F__law_same [] (a_cons (x_var 12) (a_cons (x_cb c_tuple (a_cons (x_lc (i_seq (x_var 11)) (g_name 15) t_yes (x_ix (x_var 15) (x_neg (x_c (.int 1)))) [15]) a_nil)) a_nil)))))
  (s_ret (x_c (.bool false)))
  s_nx)
  (s_seq (s_if (t_not (t_of (x_call F__law_same [] (a_cons (x_var 9) (a_cons (x_cb c_maxB (a_cons (x_bin p_add (x_lst (a_cons (x_c (.int 0)) a_nil)) (x_lc (i_seq (x_var 11)) (g_name 15) t_yes (x_ix (x_var 15) (x_c (.int 0))) [15])) a_nil)) a_nil)))))
  (s_ret (x_c (.bool false)))
  s_nx)
  (s_seq (s_ret (x_bin p_eq (x_cb c_len (a_cons (x_lc (i_seq (x_var 8)) (g_name 13) (t_and (t_of (x_bin p_eq (x_ix (x_var 13) (x_c (.int 0))) (x_var 12))) (t_of (x_bin p_eq (x_ix (x_var 13) (x_c (.int 1))) (x_var 11)))) (x_var 13) [13]) a_nil)) (x_c (.int 1))))
  s_nx))))))))))))))))))
def F__law_small : List PyData → Option Rs := runF 1 15 g__law_small
def g__law_told : Fs :=
  (s_seq (s_setF 3 (x_call F_rows_of [] (a_cons (x_var 0) (a_cons (x_var 1) a_nil))))
  (s_seq (s_if (t_not (t_of (x_call F__law_same [] (a_cons (x_var 3) (a_cons (x_call F__law_walk [] (a_cons (x_var 0) (a_cons (x_var 1) a_nil))) a_nil)))))
  (s_ret (x_c (.bool false)))
  s_nx)
  (s_seq (s_setF 4 (x_callK F_walk_heights [1, 0] a_nil (a_cons (x_var 1) (a_cons (x_var 0) a_nil))))
  (s_seq (s_if (t_not (t_of (x_call F__law_same [] (a_cons (x_var 4) (a_cons (x_cb c_tuple (a_cons (x_lc (i_seq (x_var 3)) (g_name 7) t_yes (x_ix (x_var 7) (x_neg (x_c (.int 1)))) [7]) a_nil)) a_nil)))))
  (s_ret (x_c (.bool false)))
  s_nx)
  (s_seq (s_setF 5 (x_cb c_maxB (a_cons (x_bin p_add (x_lst (a_cons (x_c (.int 0)) a_nil)) (x_lc (i_seq (x_var 3)) (g_name 7) t_yes (x_ix (x_var 7) (x_c (.int 0))) [7])) a_nil)))
  (s_seq (s_if (t_not (t_of (x_call F__law_same [] (a_cons (x_tup (a_cons (x_call F_top_of [] (a_cons (x_var 0) (a_cons (x_var 1) a_nil))) (a_cons (x_call F_can_keep [] (a_cons (x_var 0) (a_cons (x_var 1) a_nil))) a_nil))) (a_cons (x_tup (a_cons (x_var 5) (a_cons (x_bin q_le (x_var 5) (x_ix (x_var 1) (x_c (.int 0)))) a_nil))) a_nil)))))
  (s_ret (x_c (.bool false)))
  s_nx)
  (s_seq (s_for (i_rng2 (x_c (.int 1)) (x_bin p_add (x_cb c_len (a_cons (x_var 0) a_nil)) (x_c (.int 1)))) (g_name 6) [6]
  (s_if (t_not (t_of (x_call F__law_same [] (a_cons (x_ix (x_var 3) (x_bin p_sub (x_var 6) (x_c (.int 1)))) (a_cons (x_call F__law_open_row [] (a_cons (x_var 0) (a_cons (x_var 4) (a_cons (x_var 6) (a_cons (x_c (.int 1)) a_nil))))) a_nil)))))
  (s_ret (x_c (.bool false)))
  s_nx))
  (s_seq (s_if (t_of (x_bin p_eq (x_cb c_len (a_cons (x_var 0) a_nil)) (x_c (.int 0))))
  (s_ret (x_c (.bool true)))
  s_nx)
  (s_seq (s_setF 6 (x_bin p_add (x_c (.int 1)) (x_bin p_mod (x_cb c_int (a_cons (x_var 2) a_nil)) (x_cb c_len (a_cons (x_var 0) a_nil)))))
  (s_seq (s_ret (x_call F__law_same [] (a_cons (x_call F_open_row [] (a_cons (x_var 0) (a_cons (x_var 4) (a_cons (x_var 6) a_nil)))) (a_cons (x_ix (x_var 3) (x_bin p_sub (x_var 6) (x_c (.int 1)))) a_nil))))
  s_nx))))))))))
def F__law_told : List PyData → Option Rs := runF 3 5 g__law_told
def g__law_great : Fs :=
  (s_seq (s_setF 1 (x_call F__law_draw [] (a_cons (x_var 0) (a_cons (x_c (.int 3)) (a_cons (x_c (.int 8)) a_nil)))))
  (s_seq (s_setF 2 (x_ix (x_tup (a_cons (x_c (.int 6)) (a_cons (x_c (.int 7)) (a_cons (x_c (.int 5)) (a_cons (x_c (.int 8)) (a_cons (x_c (.int 9)) (a_cons (x_c (.int 6)) (a_cons (x_c (.int 3)) (a_cons (x_c (.int 7)) (a_cons (x_c (.int 24)) (a_cons (x_c (.int 6)) (a_cons (x_c (.int 8)) (a_cons (x_c (.int 5)) (a_cons (x_c (.int 7)) (a_cons (x_c (.int 9)) (a_cons (x_c (.int 40)) (a_cons (x_c (.int 0)) a_nil))))))))))))))))) (x_bin p_mod (x_cb c_int (a_cons (x_ix (x_var 1) (x_c (.int 0))) a_nil)) (x_c (.int 16)))))
  (s_seq (s_setF 3 (x_call F__law_tree [] (a_cons (x_call F__law_draw [] (a_cons (x_var 0) (a_cons (x_c (.int 4)) (a_cons (x_c (.int 41)) a_nil)))) (a_cons (x_var 2) a_nil))))
  (s_seq (s_setF 4 (x_call F__law_draw [] (a_cons (x_var 0) (a_cons (x_c (.int 5)) (a_cons (x_c (.int 40)) a_nil)))))
  (s_seq (s_setF 5 (x_ix (x_tup (a_cons (x_c (.int 3)) (a_cons (x_c (.int 2)) (a_cons (x_c (.int 4)) (a_cons (x_c (.int 12)) (a_cons (x_c (.int 3)) (a_cons (x_c (.int 900)) a_nil))))))) (x_bin p_mod (x_cb c_int (a_cons (x_ix (x_var 1) (x_c (.int 1))) a_nil)) (x_c (.int 6)))))
  (s_seq (s_setF 6 (x_cb c_tuple (a_cons (x_lc (i_rng1 (x_var 2)) (g_name 14) t_yes (x_bin p_add (x_c (.int 1)) (x_bin p_mod (x_cb c_int (a_cons (x_ix (x_var 4) (x_var 14)) a_nil)) (x_var 5))) [14]) a_nil)))
  (s_seq (s_setF 7 (x_bin p_add (x_cb c_maxB (a_cons (x_bin p_add (x_tup (a_cons (x_c (.int 1)) a_nil)) (x_var 6)) a_nil)) (x_bin p_mod (x_cb c_int (a_cons (x_ix (x_var 1) (x_c (.int 2))) a_nil)) (x_c (.int 4)))))
  (s_seq (s_setF 8 (x_call F__law_draw [] (a_cons (x_var 0) (a_cons (x_c (.int 6)) (a_cons (x_c (.int 40)) a_nil)))))
  (s_seq (s_set 9 (x_lst a_nil))
  (s_seq (s_set 10 (x_lst a_nil))
  (s_seq (s_for (i_rng2 (x_c (.int 1)) (x_bin p_add (x_var 2) (x_c (.int 1)))) (g_name 11) [11]
  (s_seq (s_drop (x_app 9 (x_call F__law_open_row [] (a_cons (x_var 3) (a_cons (x_var 6) (a_cons (x_var 11) (a_cons (x_c (.int 1)) a_nil)))))))
  (s_seq (s_setF 16 (x_ix (x_var 6) (x_bin p_sub (x_var 11) (x_c (.int 1)))))
  (s_seq (s_if (t_of (x_bin p_eq (x_bin p_mod (x_cb c_int (a_cons (x_ix (x_var 8) (x_bin p_sub (x_var 11) (x_c (.int 1)))) a_nil)) (x_c (.int 3))) (x_c (.int 1))))
  (s_setF 16 (x_bin p_add (x_c (.int 1)) (x_bin p_mod (x_cb c_int (a_cons (x_bin p_div (x_ix (x_var 8) (x_bin p_sub (x_var 11) (x_c (.int 1)))) (x_c (.int 3))) a_nil)) (x_var 16))))
  s_nx)
  (s_seq (s_drop (x_app 10 (x_tup (a_cons (x_bin p_add (x_cb c_len (a_cons (x_ix (x_var 9) (x_neg (x_c (.int 1)))) a_nil)) (x_cb c_int (a_cons (x_bin p_eq (x_bin p_mod (x_cb c_int (a_cons (x_bin p_div (x_ix (x_var 8) (x_bin p_sub (x_var 11) (x_c (.int 1)))) (x_c (.int 9))) a_nil)) (x_c (.int 5))) (x_c (.int 4))) a_nil))) (a_cons (x_bin p_sub (x_bin p_add (x_var 7) (x_c (.int 1))) (x_var 16)) a_nil)))))
  s_nx)))))
  (s_seq (s_setF 12 (x_tup (a_cons (x_var 7) (a_cons (x_cb c_tuple (a_cons (x_var 10) a_nil)) a_nil))))
  (s_seq (s_if (t_or (t_not (t_of (x_call F__law_told [] (a_cons (x_var 3) (a_cons (x_var 12) (a_cons (x_ix (x_var 1) (x_c (.int 3))) a_nil)))))) (t_not (t_of (x_call F__law_same [] (a_cons (x_call F_can_keep [] (a_cons (x_var 3) (a_cons (x_var 12) a_nil))) (a_cons (x_c (.bool true)) a_nil))))))
  (s_ret (x_c (.bool false)))
  s_nx)
  (s_seq (s_setF 13 (x_call F_rows_of [] (a_cons (x_var 3) (a_cons (x_var 12) a_nil))))
  (s_seq (s_for (i_rng1 (x_var 2)) (g_name 14) [14]
  (s_if (t_of (x_bin q_gt (x_ix (x_var 13) (x_var 14)) (x_ix (x_var 9) (x_var 14))))
  (s_ret (x_c (.bool false)))
  s_nx))
  (s_seq (s_setF 15 (x_call F__law_any [] (a_cons (x_call F__law_draw [] (a_cons (x_var 0) (a_cons (x_c (.int 7)) (a_cons (x_c (.int 40)) a_nil)))) (a_cons (x_var 2) (a_cons (x_ix (x_tup (a_cons (x_c (.int 2)) (a_cons (x_c (.int 3)) (a_cons (x_c (.int 5)) (a_cons (x_c (.int 9)) (a_cons (x_c (.int 4)) (a_cons (x_c (.int 999)) (a_cons (x_c (.int 1)) (a_cons (x_c (.int 40)) a_nil))))))))) (x_bin p_mod (x_cb c_int (a_cons (x_ix (x_var 1) (x_c (.int 4))) a_nil)) (x_c (.int 8)))) a_nil)))))
  (s_seq (s_ret (x_call F__law_told [] (a_cons (x_var 3) (a_cons (x_var 15) (a_cons (x_ix (x_var 1) (x_c (.int 5))) a_nil)))))
  s_nx)))))))))))))))))
def F__law_great : List PyData → Option Rs := runF 1 16 g__law_great
def g_law : Fs :=
  (s_ret (x_and (x_call F__law_small [] (a_cons (x_var 0) a_nil)) (x_call F__law_great [] (a_cons (x_var 0) a_nil))))
def F_law : List PyData → Option Rs := runF 1 0 g_law
end K15
namespace K15
open PySem PySem.Spec PyProof.Rows L2 DL
structure Bi (mg : Str → Option Value) : Prop where
  abs : mg ("abs" : Str) = none
  all : mg ("all" : Str) = none
  any : mg ("any" : Str) = none
  bool : mg ("bool" : Str) = none
  enumerate : mg ("enumerate" : Str) = none
  int : mg ("int" : Str) = none
  isinstance : mg ("isinstance" : Str) = none
  len : mg ("len" : Str) = none
  list : mg ("list" : Str) = none
  max : mg ("max" : Str) = none
  min : mg ("min" : Str) = none
  range : mg ("range" : Str) = none
  sorted : mg ("sorted" : Str) = none
  tuple : mg ("tuple" : Str) = none
  zip : mg ("zip" : Str) = none
structure Ii (mg : Str → Option Value) : Prop where
  i_GREATEST_BOUND : ∃ t, mg ("GREATEST_BOUND" : Str) = some (.int 999 t)
theorem sc_is_integer : FnScope ["thing"] ["thing"] (defScope s_is_integer) := ⟨rfl, rfl, rfl, by decide +kernel, rfl, by decide +kernel, by decide +kernel⟩
theorem sc_is_pair : FnScope ["thing"] ["thing"] (defScope s_is_pair) := ⟨rfl, rfl, rfl, by decide +kernel, rfl, by decide +kernel, by decide +kernel⟩
theorem sc_all_versions : FnScope ["history"] ["history"] (defScope s_all_versions) := ⟨rfl, rfl, rfl, by decide +kernel, rfl, by decide +kernel, by decide +kernel⟩
theorem sc_at_or_below : FnScope ["history", "version", "other", "step"] ["history", "version", "other"] (defScope s_at_or_below) := ⟨rfl, rfl, rfl, by decide +kernel, rfl, by decide +kernel, by decide +kernel⟩
theorem sc_falling : FnScope ["members"] ["members"] (defScope s_falling) := ⟨rfl, rfl, rfl, by decide +kernel, rfl, by decide +kernel, by decide +kernel⟩
theorem sc_row_after : FnScope ["width", "floor", "row", "height", "member"] ["width", "floor", "row"] (defScope s_row_after) := ⟨rfl, rfl, rfl, by decide +kernel, rfl, by decide +kernel, by decide +kernel⟩
theorem sc_near_elder : FnScope ["history", "marked", "version", "elder"] ["history", "marked", "version"] (defScope s_near_elder) := ⟨rfl, rfl, rfl, by decide +kernel, rfl, by decide +kernel, by decide +kernel⟩
theorem sc__law_draw : FnScope ["_law_script", "_law_at", "_law_many", "_law_cell", "_law_row", "_law_mixed", "_law_k"] ["_law_script", "_law_at", "_law_many"] (defScope s__law_draw) := ⟨rfl, rfl, rfl, by decide +kernel, rfl, by decide +kernel, by decide +kernel⟩
theorem sc__law_tree : FnScope ["_law_row", "_law_many", "_law_manner", "_law_parents", "_law_v", "_law_pick"] ["_law_row", "_law_many"] (defScope s__law_tree) := ⟨rfl, rfl, rfl, by decide +kernel, rfl, by decide +kernel, by decide +kernel⟩
theorem sc__law_open_row : FnScope ["_law_tree_here", "_law_heights_here", "_law_version", "_law_first", "_law_found", "_law_z", "_law_at", "_law_mine"] ["_law_tree_here", "_law_heights_here", "_law_version", "_law_first"] (defScope s__law_open_row) := ⟨rfl, rfl, rfl, by decide +kernel, rfl, by decide +kernel, by decide +kernel⟩
theorem sc__law_walk : FnScope ["_law_tree_here", "_law_bounds", "_law_below", "_law_rows", "_law_v", "_law_members", "_law_width", "_law_height", "_law_row", "_law_member"] ["_law_tree_here", "_law_bounds"] (defScope s__law_walk) := ⟨rfl, rfl, rfl, by decide +kernel, rfl, by decide +kernel, by decide +kernel⟩
theorem sc__law_any : FnScope ["_law_row", "_law_many", "_law_roof", "_law_pairs", "_law_k", "_law_pick"] ["_law_row", "_law_many", "_law_roof"] (defScope s__law_any) := ⟨rfl, rfl, rfl, by decide +kernel, rfl, by decide +kernel, by decide +kernel⟩
theorem sc_is_natural : FnScope ["thing"] ["thing"] (defScope s_is_natural) := ⟨rfl, rfl, rfl, by decide +kernel, rfl, by decide +kernel, by decide +kernel⟩
theorem sc_step_of : FnScope ["bounds", "version", "members", "roof", "pairs", "width", "reach"] ["bounds", "version", "members"] (defScope s_step_of) := ⟨rfl, rfl, rfl, by decide +kernel, rfl, by decide +kernel, by decide +kernel⟩
theorem sc__law_heights : FnScope ["_law_tree_here", "_law_bounds", "_law_most", "_law_states", "_law_v", "_law_width", "_law_floor", "_law_longer", "_law_state", "_law_height", "_law_heights_here", "_law_row"] ["_law_tree_here", "_law_bounds", "_law_most"] (defScope s__law_heights) := ⟨rfl, rfl, rfl, by decide +kernel, rfl, by decide +kernel, by decide +kernel⟩
theorem sc_up_to : FnScope ["thing", "greatest"] ["thing", "greatest"] (defScope s_up_to) := ⟨rfl, rfl, rfl, by decide +kernel, rfl, by decide +kernel, by decide +kernel⟩
theorem sc_walked : FnScope ["history", "bounds", "versions", "marked", "version", "below", "pairs", "row", "_"] ["history", "bounds", "versions"] (defScope s_walked) := ⟨rfl, rfl, rfl, by decide +kernel, rfl, by decide +kernel, by decide +kernel⟩
theorem sc_is_heights : FnScope ["history", "thing", "height"] ["history", "thing"] (defScope s_is_heights) := ⟨rfl, rfl, rfl, by decide +kernel, rfl, by decide +kernel, by decide +kernel⟩
theorem sc_bound_fault : FnScope ["history", "thing", "roof", "pairs", "k", "pair"] ["history", "thing"] (defScope s_bound_fault) := ⟨rfl, rfl, rfl, by decide +kernel, rfl, by decide +kernel, by decide +kernel⟩
theorem sc_need_version : FnScope ["history", "version"] ["history", "version"] (defScope s_need_version) := ⟨rfl, rfl, rfl, by decide +kernel, rfl, by decide +kernel, by decide +kernel⟩
theorem sc_goes_above : FnScope ["history", "bounds", "versions", "pair"] ["history", "bounds", "versions"] (defScope s_goes_above) := ⟨rfl, rfl, rfl, by decide +kernel, rfl, by decide +kernel, by decide +kernel⟩
theorem sc_bases_by : FnScope ["history", "heights", "bases", "height", "parent", "elder"] ["history", "heights"] (defScope s_bases_by) := ⟨rfl, rfl, rfl, by decide +kernel, rfl, by decide +kernel, by decide +kernel⟩
theorem sc_need_bounds : FnScope ["history", "bounds"] ["history", "bounds"] (defScope s_need_bounds) := ⟨rfl, rfl, rfl, by decide +kernel, rfl, by decide +kernel, by decide +kernel⟩
theorem sc_open_at : FnScope ["history", "heights", "version", "bases", "found", "other"] ["history", "heights", "version"] (defScope s_open_at) := ⟨rfl, rfl, rfl, by decide +kernel, rfl, by decide +kernel, by decide +kernel⟩
theorem sc_open_row : FnScope ["history", "heights", "version", "other"] ["history", "heights", "version"] (defScope s_open_row) := ⟨rfl, rfl, rfl, by decide +kernel, rfl, by decide +kernel, by decide +kernel⟩
theorem sc_rows_of : FnScope ["history", "bounds", "pairs", "_", "row"] ["history", "bounds"] (defScope s_rows_of) := ⟨rfl, rfl, rfl, by decide +kernel, rfl, by decide +kernel, by decide +kernel⟩
theorem sc_can_keep : FnScope ["history", "bounds"] ["history", "bounds"] (defScope s_can_keep) := ⟨rfl, rfl, rfl, by decide +kernel, rfl, by decide +kernel, by decide +kernel⟩
theorem sc_walk_heights : FnScope ["history", "bounds", "row"] ["history", "bounds"] (defScope s_walk_heights) := ⟨rfl, rfl, rfl, by decide +kernel, rfl, by decide +kernel, by decide +kernel⟩
theorem sc_top_of : FnScope ["history", "bounds", "row"] ["history", "bounds"] (defScope s_top_of) := ⟨rfl, rfl, rfl, by decide +kernel, rfl, by decide +kernel, by decide +kernel⟩
theorem sc__law_same : FnScope ["_law_one", "_law_other", "_law_k"] ["_law_one", "_law_other"] (defScope s__law_same) := ⟨rfl, rfl, rfl, by decide +kernel, rfl, by decide +kernel, by decide +kernel⟩
theorem sc__law_small : FnScope ["_law_script", "_law_first", "_law_many", "_law_tree_here", "_law_limit", "_law_roof", "_law_bounds", "_law_most", "_law_states", "_law_top", "_law_within", "_law_due", "_law_heights_here", "_law_state", "_law_k", "_law_row"] ["_law_script"] (defScope s__law_small) := ⟨rfl, rfl, rfl, by decide +kernel, rfl, by decide +kernel, by decide +kernel⟩
theorem sc__law_told : FnScope ["_law_tree_here", "_law_bounds", "_law_pick", "_law_rows", "_law_heights_here", "_law_top", "_law_v", "_law_row"] ["_law_tree_here", "_law_bounds", "_law_pick"] (defScope s__law_told) := ⟨rfl, rfl, rfl, by decide +kernel, rfl, by decide +kernel, by decide +kernel⟩
theorem sc__law_great : FnScope ["_law_script", "_law_first", "_law_many", "_law_tree_here", "_law_picks", "_law_most", "_law_heights_here", "_law_roof", "_law_spare", "_law_opened", "_law_pairs", "_law_v", "_law_bounds", "_law_rows", "_law_k", "_law_other", "_law_floor"] ["_law_script"] (defScope s__law_great) := ⟨rfl, rfl, rfl, by decide +kernel, rfl, by decide +kernel, by decide +kernel⟩
theorem sc_law : FnScope ["_law_script"] ["_law_script"] (defScope s_law) := ⟨rfl, rfl, rfl, by decide +kernel, rfl, by decide +kernel, by decide +kernel⟩
section
variable {P : Program} {w : World} {K : PySem.W.Frag} {mg : Str → Option Value} {base : Heap} {f : Addr} {fd : FuncData} {dvs : List V} {kws : List (Str × V)}
theorem ok_is_integer (B : Bi mg) (F : FunD K "is_integer" "is_integer" (defArgs s_is_integer) (defBody s_is_integer) (defScope s_is_integer) dvs kws f fd) : FnOk P w K mg base CX0 1 f fd ["thing"] (spD K 1 F_is_integer) :=
  fnD F sc_is_integer rfl rfl fun cdv A outer s H E hr => (ssd_one (sd_ret (ed_and (ed_isi .int (ed_var 0) B.isinstance B.int) (ed_one (ed_not (ed_isi .bool (ed_var 0) B.isinstance B.bool))))))
theorem ok_is_pair (B : Bi mg) (F : FunD K "is_pair" "is_pair" (defArgs s_is_pair) (defBody s_is_pair) (defScope s_is_pair) dvs kws f fd) : FnOk P w K mg base CX0 1 f fd ["thing"] (spD K 1 F_is_pair) :=
  fnD F sc_is_pair rfl rfl fun cdv A outer s H E hr => (ssd_one (sd_ret (ed_and (ed_isi .tuple (ed_var 0) B.isinstance B.tuple) (ed_one (ed_cmp vb_eq (op_eqD hr.units) (nomark _) (ed_cb vc_len call_len_seq B.len (ad_cons (ed_var 0) ad_nil)) ed_int)))))
theorem ok_all_versions (B : Bi mg) (F : FunD K "all_versions" "all_versions" (defArgs s_all_versions) (defBody s_all_versions) (defScope s_all_versions) dvs kws f fd) : FnOk P w K mg base CX0 1 f fd ["history"] (spD K 1 F_all_versions) :=
  fnD F sc_all_versions rfl rfl fun cdv A outer s H E hr => (ssd_one (sd_ret (ed_trg (rgd2 ed_int (ed_op vb_add op_add3 (ed_cb vc_len call_len_seq B.len (ad_cons (ed_var 0) ad_nil)) ed_int) B.range) rfl B.tuple)))
theorem ok_at_or_below (F : FunD K "at_or_below" "at_or_below" (defArgs s_at_or_below) (defBody s_at_or_below) (defScope s_at_or_below) dvs kws f fd) : FnOk P w K mg base CX0 1 f fd ["history", "version", "other"] (spD K 3 F_at_or_below) :=
  fnD F sc_at_or_below rfl rfl fun cdv A outer s H E hr => (ssd_cons (sd_setF 3 sc_at_or_below.nd (ed_var 2))
  (ssd_cons (sd_while (fuI 3) PassesOwn.never (td_cmp vq_gt (oq_gt hr.units) (nomark _) (ed_var 3) (ed_var 1))
  (ssd_one (sd_setF 3 sc_at_or_below.nd (ed_ix (ed_var 0) (ed_op vb_sub op_sub (ed_var 3) ed_int)))))
  (ssd_cons (sd_ret (ed_cmp vb_eq (op_eqD hr.units) (nomark _) (ed_var 3) (ed_var 1)))
  ssd_nil)))
theorem ok_falling (B : Bi mg) (F : FunD K "falling" "falling" (defArgs s_falling) (defBody s_falling) (defScope s_falling) dvs kws f fd) : FnOk P w K mg base CX0 1 f fd ["members"] (spD K 1 F_falling) :=
  fnD F sc_falling rfl rfl fun cdv A outer s H E hr => (ssd_one (sd_ret (ed_ct vc_tuple call_tuple_of B.tuple (ad_cons (ed_sortedR (ad_cons (ed_var 0) ad_nil) B.sorted) ad_nil))))
theorem ok_row_after (B : Bi mg) (F : FunD K "row_after" "row_after" (defArgs s_row_after) (defBody s_row_after) (defScope s_row_after) dvs kws f fd) : FnOk P w K mg base CX0 1 f fd ["width", "floor", "row"] (spD K 3 F_row_after) :=
  fnD F sc_row_after rfl rfl fun cdv A outer s H E hr => (ssd_cons (sd_setF 3 sc_row_after.nd (ed_var 1))
  (ssd_cons (sd_if (WD.td (wd_and (td_cmp vq_ge (oq_ge hr.units) (nomark _) (ed_cb vc_len call_len_seq B.len (ad_cons (ed_var 2) ad_nil)) (ed_var 0)) (wd_and1 (td_cmp vq_ge (oq_ge hr.units) (nomark _) (ed_ix (ed_var 2) (ed_op vb_sub op_sub (ed_var 0) ed_int)) (ed_var 1)))))
  (ssd_one (sd_setF 3 sc_row_after.nd (ed_op vb_add op_add3 (ed_ix (ed_var 2) (ed_op vb_sub op_sub (ed_var 0) ed_int)) ed_int)))
  ssd_nil)
  (ssd_cons (sd_ret (ed_op vb_add op_add3 (ed_ct vc_tuple call_tuple_of B.tuple (ad_cons (ed_lc (own := [("member", 4)]) rfl sc_row_after.nd (id_seq (ed_var 2)) (by first | decide | with_unfolding_all rfl) (by decide) (fun _ _ _ _ _ => (gd_name (i := 4) sc_row_after.nd rfl (by first | exact .inl rfl | exact .inr rfl))) (fun _ _ _ _ _ => (ptd_one (td_cmp vq_ge (oq_ge hr.units) (nomark _) (ed_var 4) (ed_var 3)))) (fun _ _ _ _ _ => (ed_var 4))) ad_nil)) (ed_tup (ad_cons (ed_var 3) ad_nil))))
  ssd_nil)))
theorem ok_near_elder (F : FunD K "near_elder" "near_elder" (defArgs s_near_elder) (defBody s_near_elder) (defScope s_near_elder) dvs kws f fd) : FnOk P w K mg base CX0 1 f fd ["history", "marked", "version"] (spD K 3 F_near_elder) :=
  fnD F sc_near_elder rfl rfl fun cdv A outer s H E hr => (ssd_cons (sd_setF 3 sc_near_elder.nd (ed_ix (ed_var 0) (ed_op vb_sub op_sub (ed_var 2) ed_int)))
  (ssd_cons (sd_while (fuI 3) PassesOwn.never (WD.td (wd_and (td_cmp vb_ne (op_neD hr.units) (nomark _) (ed_var 3) ed_int) (wd_and1 (td_not (td_val (ed_ix (ed_var 1) (ed_var 3)))))))
  (ssd_one (sd_setF 3 sc_near_elder.nd (ed_ix (ed_var 0) (ed_op vb_sub op_sub (ed_var 3) ed_int)))))
  (ssd_cons (sd_ret (ed_var 3))
  ssd_nil)))
theorem ok__law_draw (B : Bi mg) (F : FunD K "_law_draw" "_law_draw" (defArgs s__law_draw) (defBody s__law_draw) (defScope s__law_draw) dvs kws f fd) : FnOk P w K mg base CX0 1 f fd ["_law_script", "_law_at", "_law_many"] (spD K 3 F__law_draw) :=
  fnD F sc__law_draw rfl rfl fun cdv A outer s H E hr => (ssd_cons (sd_if (td_cmp vb_eq (op_eqD hr.units) (nomark _) (ed_cb vc_len call_len_seq B.len (ad_cons (ed_var 0) ad_nil)) ed_int)
  (ssd_one (sd_ret (ed_lc (own := [("_law_k", 6)]) rfl sc__law_draw.nd (id_rng1 (ed_var 2) B.range) (by first | decide | with_unfolding_all rfl) (by decide) (fun _ _ _ _ _ => (gd_name (i := 6) sc__law_draw.nd rfl (by first | exact .inl rfl | exact .inr rfl))) (fun _ _ _ _ _ => ptd_nil) (fun _ _ _ _ _ => ed_int))))
  ssd_nil)
  (ssd_cons (sd_setF 3 sc__law_draw.nd (ed_ct vc_int call_int1 B.int (ad_cons (ed_ix (ed_var 0) (ed_op vb_mod op_mod (ed_ct vc_int call_int1 B.int (ad_cons (ed_var 1) ad_nil)) (ed_cb vc_len call_len_seq B.len (ad_cons (ed_var 0) ad_nil)))) ad_nil)))
  (ssd_cons (sd_set 4 sc__law_draw.nd (ed_lst ad_nil))
  (ssd_cons (sd_if (WD.td (wd_and (td_cmp vq_lt (oq_lt hr.units) (nomark _) (ed_var 1) (ed_cb vc_len call_len_seq B.len (ad_cons (ed_var 0) ad_nil))) (wd_and1 (td_cmp vq_ge (oq_ge hr.units) (nomark _) (ed_cb vc_abs call_abs B.abs (ad_cons (ed_var 3) ad_nil)) (ed_op vb_pow op_pow ed_int ed_int)))))
  (ssd_cons (sd_for rfl PassesOwn.never (id_rng1 (ed_var 2) B.range) (gd_name (i := 6) sc__law_draw.nd rfl (by first | exact .inl rfl | exact .inr rfl))
  (ssd_cons (sd_expr (ed_app 4 (ed_op vb_mod op_mod (ed_ct vc_int call_int1 B.int (ad_cons (ed_var 3) ad_nil)) ed_int)))
  (ssd_cons (sd_setF 3 sc__law_draw.nd (ed_op vb_div op_fdiv (ed_var 3) ed_int))
  ssd_nil)))
  (ssd_cons (sd_ret (ed_var 4))
  ssd_nil))
  ssd_nil)
  (ssd_cons (sd_setF 5 sc__law_draw.nd (ed_op vb_mod op_mod (ed_ct vc_int call_int1 B.int (ad_cons (ed_op vb_add op_add3 (ed_op vb_add op_add3 (ed_op vb_add op_add3 (ed_op vb_mul op_mul2 (ed_var 3) ed_int) (ed_op vb_mul op_mul2 (ed_var 1) ed_int)) (ed_op vb_mul op_mul2 (ed_cb vc_len call_len_seq B.len (ad_cons (ed_var 0) ad_nil)) ed_int)) ed_int) ad_nil)) ed_int))
  (ssd_cons (sd_for rfl PassesOwn.never (id_rng1 (ed_var 2) B.range) (gd_name (i := 6) sc__law_draw.nd rfl (by first | exact .inl rfl | exact .inr rfl))
  (ssd_cons (sd_setF 5 sc__law_draw.nd (ed_op vb_mod op_mod (ed_ct vc_int call_int1 B.int (ad_cons (ed_op vb_add op_add3 (ed_op vb_mul op_mul2 (ed_var 5) ed_int) ed_int) ad_nil)) ed_int))
  (ssd_cons (sd_expr (ed_app 4 (ed_op vb_mod op_mod (ed_ct vc_int call_int1 B.int (ad_cons (ed_op vb_div op_fdiv (ed_var 5) ed_int) ad_nil)) ed_int)))
  ssd_nil)))
  (ssd_cons (sd_ret (ed_var 4))
  ssd_nil)))))))
theorem ok__law_tree (B : Bi mg) (F : FunD K "_law_tree" "_law_tree" (defArgs s__law_tree) (defBody s__law_tree) (defScope s__law_tree) dvs kws f fd) : FnOk P w K mg base CX0 1 f fd ["_law_row", "_law_many"] (spD K 2 F__law_tree) :=
  fnD F sc__law_tree rfl rfl fun cdv A outer s H E hr => (ssd_cons (sd_setF 2 sc__law_tree.nd (ed_op vb_mod op_mod (ed_ct vc_int call_int1 B.int (ad_cons (ed_ix (ed_var 0) ed_int) ad_nil)) ed_int))
  (ssd_cons (sd_set 3 sc__law_tree.nd (ed_lst ad_nil))
  (ssd_cons (sd_for rfl PassesOwn.never (id_rng1 (ed_var 1) B.range) (gd_name (i := 4) sc__law_tree.nd rfl (by first | exact .inl rfl | exact .inr rfl))
  (ssd_cons (sd_setF 5 sc__law_tree.nd (ed_ct vc_int call_int1 B.int (ad_cons (ed_ix (ed_var 0) (ed_op vb_add op_add3 ed_int (ed_var 4))) ad_nil)))
  (ssd_cons (sd_if (td_cmp vq_lt (oq_lt hr.units) (nomark _) (ed_var 2) ed_int)
  (ssd_one (sd_expr (ed_app 3 (ed_op vb_mod op_mod (ed_var 5) (ed_op vb_add op_add3 (ed_var 4) ed_int)))))
  (ssd_one (sd_if (td_cmp vb_eq (op_eqD hr.units) (nomark _) (ed_var 2) ed_int)
  (ssd_one (sd_expr (ed_app 3 (ed_cb vc_max2 (call_max2 rfl) B.max (ad_cons ed_int (ad_cons (ed_op vb_sub op_sub (ed_var 4) (ed_op vb_mod op_mod (ed_var 5) ed_int)) ad_nil))))))
  (ssd_one (sd_if (WD.td (wd_and (td_cmp vb_eq (op_eqD hr.units) (nomark _) (ed_var 2) ed_int) (wd_and1 (td_cmp vq_gt (oq_gt hr.units) (nomark _) (ed_op vb_mod op_mod (ed_var 5) ed_int) ed_int))))
  (ssd_one (sd_expr (ed_app 3 (ed_var 4))))
  (ssd_one (sd_if (td_cmp vb_eq (op_eqD hr.units) (nomark _) (ed_var 2) ed_int)
  (ssd_one (sd_expr (ed_app 3 (ed_cb vc_max2 (call_max2 rfl) B.max (ad_cons ed_int (ad_cons (ed_op vb_sub op_sub (ed_var 4) (ed_op vb_mod op_mod (ed_var 5) ed_int)) ad_nil))))))
  (ssd_one (sd_expr (ed_app 3 (ed_cb vc_min2 (call_min2 rfl) B.min (ad_cons (ed_var 4) (ad_cons (ed_op vb_mod op_mod (ed_var 5) ed_int) ad_nil)))))))))))))
  ssd_nil)))
  (ssd_cons (sd_ret (ed_ct vc_tuple call_tuple_of B.tuple (ad_cons (ed_var 3) ad_nil)))
  ssd_nil))))
theorem ok__law_open_row (B : Bi mg) (F : FunD K "_law_open_row" "_law_open_row" (defArgs s__law_open_row) (defBody s__law_open_row) (defScope s__law_open_row) dvs kws f fd) : FnOk P w K mg base CX0 1 f fd ["_law_tree_here", "_law_heights_here", "_law_version", "_law_first"] (spD K 4 F__law_open_row) :=
  fnD F sc__law_open_row rfl rfl fun cdv A outer s H E hr => (ssd_cons (sd_set 4 sc__law_open_row.nd (ed_lst ad_nil))
  (ssd_cons (sd_for rfl PassesOwn.never (id_rng2 (ed_var 2) (ed_op vb_add op_add3 (ed_cb vc_len call_len_seq B.len (ad_cons (ed_var 0) ad_nil)) ed_int) B.range) (gd_name (i := 5) sc__law_open_row.nd rfl (by first | exact .inl rfl | exact .inr rfl))
  (ssd_cons (sd_setF 6 sc__law_open_row.nd (ed_var 5))
  (ssd_cons (sd_setF 7 sc__law_open_row.nd (ed_ix (ed_var 1) (ed_op vb_sub op_sub (ed_var 5) (ed_var 3))))
  (ssd_cons (sd_while (fuI 6) PassesOwn.never (WD.td (wd_and (td_cmp vq_gt (oq_gt hr.units) (nomark _) (ed_var 6) (ed_var 2)) (wd_and (td_cmp vq_ge (oq_ge hr.units) (nomark _) (ed_ix (ed_var 0) (ed_op vb_sub op_sub (ed_var 6) ed_int)) (ed_var 2)) (wd_and1 (td_cmp vq_le (oq_le hr.units) (nomark _) (ed_ix (ed_var 1) (ed_op vb_sub op_sub (ed_ix (ed_var 0) (ed_op vb_sub op_sub (ed_var 6) ed_int)) (ed_var 3))) (ed_var 7))))))
  (ssd_one (sd_setF 6 sc__law_open_row.nd (ed_ix (ed_var 0) (ed_op vb_sub op_sub (ed_var 6) ed_int)))))
  (ssd_cons (sd_if (td_cmp vb_eq (op_eqD hr.units) (nomark _) (ed_var 6) (ed_var 2))
  (ssd_one (sd_expr (ed_app 4 (ed_var 7))))
  ssd_nil)
  ssd_nil)))))
  (ssd_cons (sd_ret (ed_ct vc_tuple call_tuple_of B.tuple (ad_cons (ed_sortedR (ad_cons (ed_var 4) ad_nil) B.sorted) ad_nil)))
  ssd_nil)))
theorem ok__law_walk (B : Bi mg) (F : FunD K "_law_walk" "_law_walk" (defArgs s__law_walk) (defBody s__law_walk) (defScope s__law_walk) dvs kws f fd) : FnOk P w K mg base CX0 1 f fd ["_law_tree_here", "_law_bounds"] (spD K 2 F__law_walk) :=
  fnD F sc__law_walk rfl rfl fun cdv A outer s H E hr => (ssd_cons (by first | exact sd_setLc 2 (own := [("_law_v", 4)]) rfl sc__law_walk.nd (id_rng1 (ed_op vb_add op_add3 (ed_cb vc_len call_len_seq B.len (ad_cons (ed_var 0) ad_nil)) ed_int) B.range) (by first | decide | with_unfolding_all rfl) (by decide) (fun _ _ _ _ _ => (gd_name (i := 4) sc__law_walk.nd rfl (by first | exact .inl rfl | exact .inr rfl))) (fun _ _ _ _ _ => ptd_nil) (fun _ _ _ _ _ => (ed_lst ad_nil)) | exact sd_set 2 sc__law_walk.nd (ed_lc (own := [("_law_v", 4)]) rfl sc__law_walk.nd (id_rng1 (ed_op vb_add op_add3 (ed_cb vc_len call_len_seq B.len (ad_cons (ed_var 0) ad_nil)) ed_int) B.range) (by first | decide | with_unfolding_all rfl) (by decide) (fun _ _ _ _ _ => (gd_name (i := 4) sc__law_walk.nd rfl (by first | exact .inl rfl | exact .inr rfl))) (fun _ _ _ _ _ => ptd_nil) (fun _ _ _ _ _ => (ed_lst ad_nil))))
  (ssd_cons (sd_set 3 sc__law_walk.nd (ed_lst ad_nil))
  (ssd_cons (sd_for rfl PassesOwn.never (id_rng3 (ed_cb vc_len call_len_seq B.len (ad_cons (ed_var 0) ad_nil)) ed_int (ed_neg ed_int) B.range) (gd_name (i := 4) sc__law_walk.nd rfl (by first | exact .inl rfl | exact .inr rfl))
  (ssd_cons (sd_setF 5 sc__law_walk.nd (ed_sortedR (ad_cons (ed_ix (ed_var 2) (ed_var 4)) ad_nil) B.sorted))
  (ssd_cons (sd_setF 6 sc__law_walk.nd (ed_ix (ed_ix (ed_ix (ed_var 1) ed_int) (ed_op vb_sub op_sub (ed_var 4) ed_int)) ed_int))
  (ssd_cons (sd_setF 7 sc__law_walk.nd (ed_op vb_sub op_sub (ed_op vb_add op_add3 (ed_ix (ed_var 1) ed_int) ed_int) (ed_ix (ed_ix (ed_ix (ed_var 1) ed_int) (ed_op vb_sub op_sub (ed_var 4) ed_int)) ed_int)))
  (ssd_cons (sd_if (td_cmp vq_ge (oq_ge hr.units) (nomark _) (ed_cb vc_len call_len_seq B.len (ad_cons (ed_var 5) ad_nil)) (ed_var 6))
  (ssd_one (sd_setF 7 sc__law_walk.nd (ed_cb vc_max2 (call_max2 rfl) B.max (ad_cons (ed_var 7) (ad_cons (ed_op vb_add op_add3 (ed_ix (ed_var 5) (ed_op vb_sub op_sub (ed_var 6) ed_int)) ed_int) ad_nil)))))
  ssd_nil)
  (ssd_cons (sd_setF 8 sc__law_walk.nd (ed_op vb_add op_add3 (ed_lc (own := [("_law_member", 9)]) rfl sc__law_walk.nd (id_seq (ed_var 5)) (by first | decide | with_unfolding_all rfl) (by decide) (fun _ _ _ _ _ => (gd_name (i := 9) sc__law_walk.nd rfl (by first | exact .inl rfl | exact .inr rfl))) (fun _ _ _ _ _ => (ptd_one (td_cmp vq_ge (oq_ge hr.units) (nomark _) (ed_var 9) (ed_var 7)))) (fun _ _ _ _ _ => (ed_var 9))) (ed_lst (ad_cons (ed_var 7) ad_nil))))
  (ssd_cons (sd_expr (ed_app 3 (ed_ct vc_tuple call_tuple_of B.tuple (ad_cons (ed_var 8) ad_nil))))
  (ssd_cons (sd_put 2 (ed_op vb_add op_add3 (ed_ix (ed_var 2) (ed_ix (ed_var 0) (ed_op vb_sub op_sub (ed_var 4) ed_int))) (ed_var 8)) (ed_ix (ed_var 0) (ed_op vb_sub op_sub (ed_var 4) ed_int)))
  ssd_nil))))))))
  (ssd_cons (sd_ret (ed_ct vc_tuple call_tuple_of B.tuple (ad_cons (ed_rvs (ed_var 3)) ad_nil)))
  ssd_nil))))
theorem ok__law_any (B : Bi mg) (F : FunD K "_law_any" "_law_any" (defArgs s__law_any) (defBody s__law_any) (defScope s__law_any) dvs kws f fd) : FnOk P w K mg base CX0 1 f fd ["_law_row", "_law_many", "_law_roof"] (spD K 3 F__law_any) :=
  fnD F sc__law_any rfl rfl fun cdv A outer s H E hr => (ssd_cons (sd_set 3 sc__law_any.nd (ed_lst ad_nil))
  (ssd_cons (sd_for rfl PassesOwn.never (id_rng1 (ed_var 1) B.range) (gd_name (i := 4) sc__law_any.nd rfl (by first | exact .inl rfl | exact .inr rfl))
  (ssd_cons (sd_setF 5 sc__law_any.nd (ed_ct vc_int call_int1 B.int (ad_cons (ed_ix (ed_var 0) (ed_var 4)) ad_nil)))
  (ssd_cons (sd_expr (ed_app 3 (ed_tup (ad_cons (ed_op vb_add op_add3 ed_int (ed_ix (ed_tup (ad_cons (ed_op vb_mod op_mod (ed_var 5) ed_int) (ad_cons (ed_op vb_mod op_mod (ed_var 5) ed_int) (ad_cons ed_int (ad_cons (ed_op vb_mod op_mod (ed_var 5) ed_int) ad_nil))))) (ed_op vb_mod op_mod (ed_ct vc_int call_int1 B.int (ad_cons (ed_op vb_div op_fdiv (ed_var 5) ed_int) ad_nil)) ed_int))) (ad_cons (ed_op vb_add op_add3 ed_int (ed_op vb_mod op_mod (ed_ct vc_int call_int1 B.int (ad_cons (ed_op vb_div op_fdiv (ed_var 5) ed_int) ad_nil)) (ed_var 2))) ad_nil)))))
  ssd_nil)))
  (ssd_cons (sd_ret (ed_tup (ad_cons (ed_var 2) (ad_cons (ed_ct vc_tuple call_tuple_of B.tuple (ad_cons (ed_var 3) ad_nil)) ad_nil))))
  ssd_nil)))
theorem ok_is_natural (F : FunD K "is_natural" "is_natural" (defArgs s_is_natural) (defBody s_is_natural) (defScope s_is_natural) dvs kws f fd) (c_is_integer : Kf P w K mg base 1 "is_integer" (spD K 1 F_is_integer) []) : FnOk P w K mg base CX0 2 f fd ["thing"] (spD K 1 F_is_natural) :=
  fnD F sc_is_natural rfl rfl fun cdv A outer s H E hr => (ssd_one (sd_ret (ed_and (ed_call c_is_integer hr (by decide) dvs0 runF_len (ad_cons (ed_var 0) ad_nil)) (ed_one (ed_cmp vq_ge (oq_ge hr.units) (nomark _) (ed_var 0) ed_int)))))
theorem ok_step_of (F : FunD K "step_of" "step_of" (defArgs s_step_of) (defBody s_step_of) (defScope s_step_of) dvs kws f fd) (c_falling : Kf P w K mg base 1 "falling" (spD K 1 F_falling) []) (c_row_after : Kf P w K mg base 1 "row_after" (spD K 3 F_row_after) []) : FnOk P w K mg base CX0 2 f fd ["bounds", "version", "members"] (spD K 3 F_step_of) :=
  fnD F sc_step_of rfl rfl fun cdv A outer s H E hr => (ssd_cons (sd_asg (ed_var 0) (gd_tup rfl (gsd_cons (i := 3) sc_step_of.nd rfl (by first | exact .inl rfl | exact .inr rfl) (gsd_cons (i := 4) sc_step_of.nd rfl (by first | exact .inl rfl | exact .inr rfl) gsd_nil))))
  (ssd_cons (sd_asg (ed_ix (ed_var 4) (ed_op vb_sub op_sub (ed_var 1) ed_int)) (gd_tup rfl (gsd_cons (i := 5) sc_step_of.nd rfl (by first | exact .inl rfl | exact .inr rfl) (gsd_cons (i := 6) sc_step_of.nd rfl (by first | exact .inl rfl | exact .inr rfl) gsd_nil))))
  (ssd_cons (sd_ret (ed_call c_row_after hr (by decide) dvs0 runF_len (ad_cons (ed_var 5) (ad_cons (ed_op vb_sub op_sub (ed_op vb_add op_add3 (ed_var 3) ed_int) (ed_var 6)) (ad_cons (ed_call c_falling hr (by decide) dvs0 runF_len (ad_cons (ed_var 2) ad_nil)) ad_nil)))))
  ssd_nil)))
theorem ok__law_heights (B : Bi mg) (F : FunD K "_law_heights" "_law_heights" (defArgs s__law_heights) (defBody s__law_heights) (defScope s__law_heights) dvs kws f fd) (c__law_open_row : Kf P w K mg base 1 "_law_open_row" (spD K 4 F__law_open_row) []) : FnOk P w K mg base CX0 2 f fd ["_law_tree_here", "_law_bounds", "_law_most"] (spD K 3 F__law_heights) :=
  fnD F sc__law_heights rfl rfl fun cdv A outer s H E hr => (ssd_cons (sd_setF 3 sc__law_heights.nd (ed_lst (ad_cons (ed_tup (ad_cons (ed_tup ad_nil) (ad_cons (ed_tup ad_nil) ad_nil))) ad_nil)))
  (ssd_cons (sd_for rfl PassesOwn.never (id_rng3 (ed_cb vc_len call_len_seq B.len (ad_cons (ed_var 0) ad_nil)) ed_int (ed_neg ed_int) B.range) (gd_name (i := 4) sc__law_heights.nd rfl (by first | exact .inl rfl | exact .inr rfl))
  (ssd_cons (sd_setF 5 sc__law_heights.nd (ed_ix (ed_ix (ed_ix (ed_var 1) ed_int) (ed_op vb_sub op_sub (ed_var 4) ed_int)) ed_int))
  (ssd_cons (sd_setF 6 sc__law_heights.nd (ed_op vb_sub op_sub (ed_op vb_add op_add3 (ed_ix (ed_var 1) ed_int) ed_int) (ed_ix (ed_ix (ed_ix (ed_var 1) ed_int) (ed_op vb_sub op_sub (ed_var 4) ed_int)) ed_int)))
  (ssd_cons (sd_set 7 sc__law_heights.nd (ed_lst ad_nil))
  (ssd_cons (sd_for rfl PassesOwn.never (id_seq (ed_ct vc_list call_list_of B.list (ad_cons (ed_var 3) ad_nil))) (gd_name (i := 8) sc__law_heights.nd rfl (by first | exact .inl rfl | exact .inr rfl))
  (ssd_one (sd_for rfl PassesOwn.never (id_rng2 (ed_var 6) (ed_op vb_add op_add3 (ed_var 2) ed_int) B.range) (gd_name (i := 9) sc__law_heights.nd rfl (by first | exact .inl rfl | exact .inr rfl))
  (ssd_cons (sd_setF 10 sc__law_heights.nd (ed_op vb_add op_add3 (ed_tup (ad_cons (ed_var 9) ad_nil)) (ed_ix (ed_var 8) ed_int)))
  (ssd_cons (sd_setF 11 sc__law_heights.nd (ed_call c__law_open_row hr (by decide) dvs0 runF_len (ad_cons (ed_var 0) (ad_cons (ed_var 10) (ad_cons (ed_var 4) (ad_cons (ed_var 4) ad_nil))))))
  (ssd_cons (sd_if (td_cmp vq_le (oq_le hr.units) (nomark _) (ed_cb vc_len call_len_seq B.len (ad_cons (ed_var 11) ad_nil)) (ed_var 5))
  (ssd_one (sd_expr (ed_app 7 (ed_tup (ad_cons (ed_var 10) (ad_cons (ed_op vb_add op_add3 (ed_tup (ad_cons (ed_var 11) ad_nil)) (ed_ix (ed_var 8) ed_int)) ad_nil))))))
  ssd_nil)
  ssd_nil))))))
  (ssd_cons (SD.fz 7 (sd_setF 3 sc__law_heights.nd (ed_var 7)))
  ssd_nil))))))
  (ssd_cons (sd_ret (ed_var 3))
  ssd_nil)))
theorem ok_up_to (F : FunD K "up_to" "up_to" (defArgs s_up_to) (defBody s_up_to) (defScope s_up_to) dvs kws f fd) (c_is_natural : Kf P w K mg base 2 "is_natural" (spD K 1 F_is_natural) []) : FnOk P w K mg base CX0 3 f fd ["thing", "greatest"] (spD K 2 F_up_to) :=
  fnD F sc_up_to rfl rfl fun cdv A outer s H E hr => (ssd_one (sd_ret (ed_and (ed_call c_is_natural hr (by decide) dvs0 runF_len (ad_cons (ed_var 0) ad_nil)) (ed_one (ed_cmp vq_le (oq_le hr.units) (nomark _) (ed_var 0) (ed_var 1))))))
theorem ok_walked (B : Bi mg) (F : FunD K "walked" "walked" (defArgs s_walked) (defBody s_walked) (defScope s_walked) dvs kws f fd) (c_near_elder : Kf P w K mg base 1 "near_elder" (spD K 3 F_near_elder) []) (c_step_of : Kf P w K mg base 2 "step_of" (spD K 3 F_step_of) []) : FnOk P w K mg base CX0 3 f fd ["history", "bounds", "versions"] (spD K 3 F_walked) :=
  fnDN F sc_walked rfl rfl fun cdv A outer s H E hr => (ssdn_cons (SD.n (sd_set 3 sc_walked.nd (ed_rep (ad_cons ed_bl ad_nil) (ed_op vb_add op_add3 (ed_cb vc_len call_len_seq B.len (ad_cons (ed_var 0) ad_nil)) ed_int))))
  (ssdn_cons (sdn_for rfl PassesOwn.never (id_seq (ed_var 2)) (gd_name (i := 4) sc_walked.nd rfl (by first | exact .inl rfl | exact .inr rfl))
  (ssdn_one (SD.n (sd_put 3 ed_bl (ed_var 4)))))
  (ssdn_cons (by first | exact sdn_nw 5 8 rfl sc_walked.nd (id_rng1 (ed_op vb_add op_add3 (ed_cb vc_len call_len_seq B.len (ad_cons (ed_var 0) ad_nil)) ed_int) B.range) (by first | decide | with_unfolding_all rfl) (fun _ _ _ _ _ => pg_name (i := 8) sc_walked.nd rfl (by first | exact .inl rfl | exact .inr rfl)) | exact sdn_nw2 5 8 rfl sc_walked.nd (id_rng1 (ed_op vb_add op_add3 (ed_cb vc_len call_len_seq B.len (ad_cons (ed_var 0) ad_nil)) ed_int) B.range) (by first | decide | with_unfolding_all rfl) (fun _ _ _ _ _ => pg_name (i := 8) sc_walked.nd rfl (by first | exact .inl rfl | exact .inr rfl)))
  (ssdn_cons (SD.n (sd_set 6 sc_walked.nd (ed_lst ad_nil)))
  (ssdn_cons (sdn_for rfl PassesOwn.never (id_seq (ed_rvs (ed_var 2))) (gd_name (i := 4) sc_walked.nd rfl (by first | exact .inl rfl | exact .inr rfl))
  (ssdn_cons (SDN.fzI 5 _ (SD.n (sd_setF 7 sc_walked.nd (ed_call c_step_of hr (by decide) dvs0 runF_len (ad_cons (ed_var 1) (ad_cons (ed_var 4) (ad_cons (ed_ixn 5 (ed_var 4)) ad_nil)))))))
  (ssdn_cons (SD.n (sd_expr (ed_app 6 (ed_tup (ad_cons (ed_var 4) (ad_cons (ed_var 7) ad_nil))))))
  (ssdn_cons (SDN.fz 3 (sdn_nex 5 (ed_call c_near_elder hr (by decide) dvs0 runF_len (ad_cons (ed_var 0) (ad_cons (ed_var 3) (ad_cons (ed_var 4) ad_nil)))) (ed_var 7)))
  ssdn_nil))))
  (ssdn_cons (SD.n (sd_ret (ed_var 6)))
  ssdn_nil))))))
theorem ok_is_heights (B : Bi mg) (F : FunD K "is_heights" "is_heights" (defArgs s_is_heights) (defBody s_is_heights) (defScope s_is_heights) dvs kws f fd) (c_is_natural : Kf P w K mg base 2 "is_natural" (spD K 1 F_is_natural) []) : FnOk P w K mg base CX0 3 f fd ["history", "thing"] (spD K 2 F_is_heights) :=
  fnD F sc_is_heights rfl rfl fun cdv A outer s H E hr => (ssd_cons (sd_if (WD.td (wd_or (td_not (td_val (ed_isi .tuple (ed_var 1) B.isinstance B.tuple))) (wd_or1 (td_cmp vb_ne (op_neD hr.units) (nomark _) (ed_cb vc_len call_len_seq B.len (ad_cons (ed_var 1) ad_nil)) (ed_cb vc_len call_len_seq B.len (ad_cons (ed_var 0) ad_nil))))))
  (ssd_one (sd_ret ed_bl))
  ssd_nil)
  (ssd_cons (sd_ret (ed_cb vc_all (cr_all rfl) B.all (ad_cons (ed_lc (own := [("height", 2)]) rfl sc_is_heights.nd (id_seq (ed_var 1)) (by first | decide | with_unfolding_all rfl) (by decide) (fun _ _ _ _ _ => (gd_name (i := 2) sc_is_heights.nd rfl (by first | exact .inl rfl | exact .inr rfl))) (fun _ _ _ _ _ => ptd_nil) (fun _ _ _ _ _ => (ed_call c_is_natural hr (by decide) dvs0 runF_len (ad_cons (ed_var 2) ad_nil)))) ad_nil)))
  ssd_nil))
theorem ok_bound_fault (B : Bi mg) (I : Ii mg) (F : FunD K "bound_fault" "bound_fault" (defArgs s_bound_fault) (defBody s_bound_fault) (defScope s_bound_fault) dvs kws f fd) (c_is_pair : Kf P w K mg base 1 "is_pair" (spD K 1 F_is_pair) []) (c_up_to : Kf P w K mg base 3 "up_to" (spD K 2 F_up_to) []) : FnOk P w K mg base CX0 4 f fd ["history", "thing"] (spD K 2 F_bound_fault) :=
  fnD F sc_bound_fault rfl rfl fun cdv A outer s H E hr => (ssd_cons (sd_if (td_not (td_val (ed_call c_is_pair hr (by decide) dvs0 runF_len (ad_cons (ed_var 1) ad_nil))))
  (ssd_one (sd_ret (ed_tup (ad_cons ed_str (ad_cons (ed_neg ed_int) ad_nil)))))
  ssd_nil)
  (ssd_cons (sd_asg (ed_var 1) (gd_tup rfl (gsd_cons (i := 2) sc_bound_fault.nd rfl (by first | exact .inl rfl | exact .inr rfl) (gsd_cons (i := 3) sc_bound_fault.nd rfl (by first | exact .inl rfl | exact .inr rfl) gsd_nil))))
  (ssd_cons (sd_if (td_not (td_val (ed_call c_up_to hr (by decide) dvs0 runF_len (ad_cons (ed_var 2) (ad_cons (ed_gint rfl I.i_GREATEST_BOUND) ad_nil)))))
  (ssd_one (sd_ret (ed_tup (ad_cons ed_str (ad_cons ed_int ad_nil)))))
  ssd_nil)
  (ssd_cons (sd_if (WD.td (wd_or (td_not (td_val (ed_isi .tuple (ed_var 3) B.isinstance B.tuple))) (wd_or1 (td_cmp vb_ne (op_neD hr.units) (nomark _) (ed_cb vc_len call_len_seq B.len (ad_cons (ed_var 3) ad_nil)) (ed_cb vc_len call_len_seq B.len (ad_cons (ed_var 0) ad_nil))))))
  (ssd_one (sd_ret (ed_tup (ad_cons ed_str (ad_cons ed_int ad_nil)))))
  ssd_nil)
  (ssd_cons (sd_for rfl PassesOwn.never (id_enum (ed_var 3) B.enumerate) (gd_tup rfl (gsd_cons (i := 4) sc_bound_fault.nd rfl (by first | exact .inl rfl | exact .inr rfl) (gsd_cons (i := 5) sc_bound_fault.nd rfl (by first | exact .inl rfl | exact .inr rfl) gsd_nil)))
  (ssd_cons (sd_if (td_not (td_val (ed_call c_is_pair hr (by decide) dvs0 runF_len (ad_cons (ed_var 5) ad_nil))))
  (ssd_one (sd_ret (ed_tup (ad_cons ed_str (ad_cons (ed_var 4) ad_nil)))))
  ssd_nil)
  (ssd_cons (sd_if (td_not (td_val (ed_call c_up_to hr (by decide) dvs0 runF_len (ad_cons (ed_ix (ed_var 5) ed_int) (ad_cons (ed_gint rfl I.i_GREATEST_BOUND) ad_nil)))))
  (ssd_one (sd_ret (ed_tup (ad_cons ed_str (ad_cons (ed_var 4) ad_nil)))))
  ssd_nil)
  (ssd_cons (sd_if (td_not (td_val (ed_call c_up_to hr (by decide) dvs0 runF_len (ad_cons (ed_ix (ed_var 5) ed_int) (ad_cons (ed_var 2) ad_nil)))))
  (ssd_one (sd_ret (ed_tup (ad_cons ed_str (ad_cons (ed_var 4) ad_nil)))))
  ssd_nil)
  ssd_nil))))
  (ssd_cons (sd_ret ed_non)
  ssd_nil))))))
theorem ok_need_version (B : Bi mg) (F : FunD K "need_version" "need_version" (defArgs s_need_version) (defBody s_need_version) (defScope s_need_version) dvs kws f fd) (c_up_to : Kf P w K mg base 3 "up_to" (spD K 2 F_up_to) []) : FnOk P w K mg base CX0 4 f fd ["history", "version"] (spD K 2 F_need_version) :=
  fnD F sc_need_version rfl rfl fun cdv A outer s H E hr => (ssd_one (sd_if (td_not (td_val (ed_call c_up_to hr (by decide) dvs0 runF_len (ad_cons (ed_var 1) (ad_cons (ed_cb vc_len call_len_seq B.len (ad_cons (ed_var 0) ad_nil)) ad_nil)))))
  (ssd_one sd_never)
  ssd_nil))
theorem ok_goes_above (B : Bi mg) (F : FunD K "goes_above" "goes_above" (defArgs s_goes_above) (defBody s_goes_above) (defScope s_goes_above) dvs kws f fd) (c_walked : Kf P w K mg base 3 "walked" (spD K 3 F_walked) []) : FnOk P w K mg base CX0 4 f fd ["history", "bounds", "versions"] (spD K 3 F_goes_above) :=
  fnD F sc_goes_above rfl rfl fun cdv A outer s H E hr => (ssd_one (sd_ret (ed_cb vc_any (cr_any rfl) B.any (ad_cons (ed_lc (own := [("pair", 3)]) rfl sc_goes_above.nd (id_seq (ed_call c_walked hr (by decide) dvs0 runF_len (ad_cons (ed_var 0) (ad_cons (ed_var 1) (ad_cons (ed_var 2) ad_nil))))) (by first | decide | with_unfolding_all rfl) (by decide) (fun _ _ _ _ _ => (gd_name (i := 3) sc_goes_above.nd rfl (by first | exact .inl rfl | exact .inr rfl))) (fun _ _ _ _ _ => ptd_nil) (fun _ _ _ _ _ => (ed_cmp vq_gt (oq_gt hr.units) (nomark _) (ed_ix (ed_ix (ed_var 3) ed_int) ed_int) (ed_ix (ed_var 1) ed_int)))) ad_nil))))
theorem ok_bases_by (B : Bi mg) (F : FunD K "bases_by" "bases_by" (defArgs s_bases_by) (defBody s_bases_by) (defScope s_bases_by) dvs kws f fd) (c_is_heights : Kf P w K mg base 3 "is_heights" (spD K 2 F_is_heights) []) : FnOk P w K mg base CX0 4 f fd ["history", "heights"] (spD K 2 F_bases_by) :=
  fnD F sc_bases_by rfl rfl fun cdv A outer s H E hr => (ssd_cons (sd_if (td_not (td_val (ed_call c_is_heights hr (by decide) dvs0 runF_len (ad_cons (ed_var 0) (ad_cons (ed_var 1) ad_nil)))))
  (ssd_one sd_never)
  ssd_nil)
  (ssd_cons (sd_set 2 sc_bases_by.nd (ed_lst ad_nil))
  (ssd_cons (sd_for rfl PassesOwn.never (id_zip (ed_var 1) (ed_var 0) B.zip) (gd_tup rfl (gsd_cons (i := 3) sc_bases_by.nd rfl (by first | exact .inl rfl | exact .inr rfl) (gsd_cons (i := 4) sc_bases_by.nd rfl (by first | exact .inl rfl | exact .inr rfl) gsd_nil)))
  (ssd_cons (sd_setF 5 sc_bases_by.nd (ed_var 4))
  (ssd_cons (sd_while (fuI 5) PassesOwn.never (WD.td (wd_and (td_cmp vb_ne (op_neD hr.units) (nomark _) (ed_var 5) ed_int) (wd_and1 (td_cmp vq_le (oq_le hr.units) (nomark _) (ed_ix (ed_var 1) (ed_op vb_sub op_sub (ed_var 5) ed_int)) (ed_var 3)))))
  (ssd_one (sd_setF 5 sc_bases_by.nd (ed_ix (ed_var 0) (ed_op vb_sub op_sub (ed_var 5) ed_int)))))
  (ssd_cons (sd_expr (ed_app 2 (ed_var 5)))
  ssd_nil))))
  (ssd_cons (sd_ret (ed_ct vc_tuple call_tuple_of B.tuple (ad_cons (ed_var 2) ad_nil)))
  ssd_nil))))
theorem ok_need_bounds (F : FunD K "need_bounds" "need_bounds" (defArgs s_need_bounds) (defBody s_need_bounds) (defScope s_need_bounds) dvs kws f fd) (c_bound_fault : Kf P w K mg base 4 "bound_fault" (spD K 2 F_bound_fault) []) : FnOk P w K mg base CX0 5 f fd ["history", "bounds"] (spD K 2 F_need_bounds) :=
  fnD F sc_need_bounds rfl rfl fun cdv A outer s H E hr => (ssd_one (sd_if (td_cmp vb_isnot op_isnot2 (nomark _) (ed_call c_bound_fault hr (by decide) dvs0 runF_len (ad_cons (ed_var 0) (ad_cons (ed_var 1) ad_nil))) ed_non)
  (ssd_one sd_never)
  ssd_nil))
theorem ok_open_at (B : Bi mg) (F : FunD K "open_at" "open_at" (defArgs s_open_at) (defBody s_open_at) (defScope s_open_at) dvs kws f fd) (c_at_or_below : Kf P w K mg base 1 "at_or_below" (spD K 3 F_at_or_below) []) (c_bases_by : Kf P w K mg base 4 "bases_by" (spD K 2 F_bases_by) []) (c_need_version : Kf P w K mg base 4 "need_version" (spD K 2 F_need_version) []) : FnOk P w K mg base CX0 5 f fd ["history", "heights", "version"] (spD K 3 F_open_at) :=
  fnD F sc_open_at rfl rfl fun cdv A outer s H E hr => (ssd_cons (sd_setF 3 sc_open_at.nd (ed_call c_bases_by hr (by decide) dvs0 runF_len (ad_cons (ed_var 0) (ad_cons (ed_var 1) ad_nil))))
  (ssd_cons (sd_expr (ed_call c_need_version hr (by decide) dvs0 runF_len (ad_cons (ed_var 0) (ad_cons (ed_var 2) ad_nil))))
  (ssd_cons (sd_set 4 sc_open_at.nd (ed_lst ad_nil))
  (ssd_cons (sd_for rfl PassesOwn.never (id_rng2 (ed_var 2) (ed_op vb_add op_add3 (ed_cb vc_len call_len_seq B.len (ad_cons (ed_var 0) ad_nil)) ed_int) B.range) (gd_name (i := 5) sc_open_at.nd rfl (by first | exact .inl rfl | exact .inr rfl))
  (ssd_one (sd_if (WD.td (wd_and (td_cmp vq_lt (oq_lt hr.units) (nomark _) (ed_ix (ed_var 3) (ed_op vb_sub op_sub (ed_var 5) ed_int)) (ed_var 2)) (wd_and1 (td_val (ed_call c_at_or_below hr (by decide) dvs0 runF_len (ad_cons (ed_var 0) (ad_cons (ed_var 2) (ad_cons (ed_var 5) ad_nil))))))))
  (ssd_one (sd_expr (ed_app 4 (ed_var 5))))
  ssd_nil)))
  (ssd_cons (sd_ret (ed_ct vc_tuple call_tuple_of B.tuple (ad_cons (ed_var 4) ad_nil)))
  ssd_nil)))))
theorem ok_open_row (F : FunD K "open_row" "open_row" (defArgs s_open_row) (defBody s_open_row) (defScope s_open_row) dvs kws f fd) (c_falling : Kf P w K mg base 1 "falling" (spD K 1 F_falling) []) (c_open_at : Kf P w K mg base 5 "open_at" (spD K 3 F_open_at) []) : FnOk P w K mg base CX0 6 f fd ["history", "heights", "version"] (spD K 3 F_open_row) :=
  fnD F sc_open_row rfl rfl fun cdv A outer s H E hr => (ssd_one (sd_ret (ed_call c_falling hr (by decide) dvs0 runF_len (ad_cons (ed_lc (own := [("other", 3)]) rfl sc_open_row.nd (id_seq (ed_call c_open_at hr (by decide) dvs0 runF_len (ad_cons (ed_var 0) (ad_cons (ed_var 1) (ad_cons (ed_var 2) ad_nil))))) (by first | decide | with_unfolding_all rfl) (by decide) (fun _ _ _ _ _ => (gd_name (i := 3) sc_open_row.nd rfl (by first | exact .inl rfl | exact .inr rfl))) (fun _ _ _ _ _ => ptd_nil) (fun _ _ _ _ _ => (ed_ix (ed_var 1) (ed_op vb_sub op_sub (ed_var 3) ed_int)))) ad_nil))))
theorem ok_rows_of (B : Bi mg) (F : FunD K "rows_of" "rows_of" (defArgs s_rows_of) (defBody s_rows_of) (defScope s_rows_of) dvs kws f fd) (c_all_versions : Kf P w K mg base 1 "all_versions" (spD K 1 F_all_versions) []) (c_need_bounds : Kf P w K mg base 5 "need_bounds" (spD K 2 F_need_bounds) []) (c_walked : Kf P w K mg base 3 "walked" (spD K 3 F_walked) []) : FnOk P w K mg base CX0 6 f fd ["history", "bounds"] (spD K 2 F_rows_of) :=
  fnD F sc_rows_of rfl rfl fun cdv A outer s H E hr => (ssd_cons (sd_expr (ed_call c_need_bounds hr (by decide) dvs0 runF_len (ad_cons (ed_var 0) (ad_cons (ed_var 1) ad_nil))))
  (ssd_cons (sd_setF 2 sc_rows_of.nd (ed_call c_walked hr (by decide) dvs0 runF_len (ad_cons (ed_var 0) (ad_cons (ed_var 1) (ad_cons (ed_call c_all_versions hr (by decide) dvs0 runF_len (ad_cons (ed_var 0) ad_nil)) ad_nil)))))
  (ssd_cons (sd_ret (ed_ct vc_tuple call_tuple_of B.tuple (ad_cons (ed_lc (own := [("_", 3), ("row", 4)]) rfl sc_rows_of.nd (id_seq (ed_rvs (ed_var 2))) (by first | decide | with_unfolding_all rfl) (by decide) (fun _ _ _ _ _ => (gd_tup rfl (gsd_cons (i := 3) sc_rows_of.nd rfl (by first | exact .inl rfl | exact .inr rfl) (gsd_cons (i := 4) sc_rows_of.nd rfl (by first | exact .inl rfl | exact .inr rfl) gsd_nil)))) (fun _ _ _ _ _ => ptd_nil) (fun _ _ _ _ _ => (ed_var 4))) ad_nil)))
  ssd_nil)))
theorem ok_can_keep (F : FunD K "can_keep" "can_keep" (defArgs s_can_keep) (defBody s_can_keep) (defScope s_can_keep) dvs kws f fd) (c_all_versions : Kf P w K mg base 1 "all_versions" (spD K 1 F_all_versions) []) (c_goes_above : Kf P w K mg base 4 "goes_above" (spD K 3 F_goes_above) []) (c_need_bounds : Kf P w K mg base 5 "need_bounds" (spD K 2 F_need_bounds) []) : FnOk P w K mg base CX0 6 f fd ["history", "bounds"] (spD K 2 F_can_keep) :=
  fnD F sc_can_keep rfl rfl fun cdv A outer s H E hr => (ssd_cons (sd_expr (ed_call c_need_bounds hr (by decide) dvs0 runF_len (ad_cons (ed_var 0) (ad_cons (ed_var 1) ad_nil))))
  (ssd_cons (sd_ret (ed_not (ed_call c_goes_above hr (by decide) dvs0 runF_len (ad_cons (ed_var 0) (ad_cons (ed_var 1) (ad_cons (ed_call c_all_versions hr (by decide) dvs0 runF_len (ad_cons (ed_var 0) ad_nil)) ad_nil))))))
  ssd_nil))
theorem ok_walk_heights (B : Bi mg) (F : FunD K "walk_heights" "walk_heights" (defArgs s_walk_heights) (defBody s_walk_heights) (defScope s_walk_heights) dvs kws f fd) (c_rows_of : Kf P w K mg base 6 "rows_of" (spD K 2 F_rows_of) []) : FnOk P w K mg base CX0 7 f fd ["history", "bounds"] (spD K 2 F_walk_heights) :=
  fnD F sc_walk_heights rfl rfl fun cdv A outer s H E hr => (ssd_one (sd_ret (ed_ct vc_tuple call_tuple_of B.tuple (ad_cons (ed_lc (own := [("row", 2)]) rfl sc_walk_heights.nd (id_seq (ed_call c_rows_of hr (by decide) dvs0 runF_len (ad_cons (ed_var 0) (ad_cons (ed_var 1) ad_nil)))) (by first | decide | with_unfolding_all rfl) (by decide) (fun _ _ _ _ _ => (gd_name (i := 2) sc_walk_heights.nd rfl (by first | exact .inl rfl | exact .inr rfl))) (fun _ _ _ _ _ => ptd_nil) (fun _ _ _ _ _ => (ed_ix (ed_var 2) (ed_neg ed_int)))) ad_nil))))
theorem ok_top_of (B : Bi mg) (F : FunD K "top_of" "top_of" (defArgs s_top_of) (defBody s_top_of) (defScope s_top_of) dvs kws f fd) (c_rows_of : Kf P w K mg base 6 "rows_of" (spD K 2 F_rows_of) []) : FnOk P w K mg base CX0 7 f fd ["history", "bounds"] (spD K 2 F_top_of) :=
  fnD F sc_top_of rfl rfl fun cdv A outer s H E hr => (ssd_one (sd_ret (ed_maxDf (ad_cons (ed_lc (own := [("row", 2)]) rfl sc_top_of.nd (id_seq (ed_call c_rows_of hr (by decide) dvs0 runF_len (ad_cons (ed_var 0) (ad_cons (ed_var 1) ad_nil)))) (by first | decide | with_unfolding_all rfl) (by decide) (fun _ _ _ _ _ => (gd_name (i := 2) sc_top_of.nd rfl (by first | exact .inl rfl | exact .inr rfl))) (fun _ _ _ _ _ => ptd_nil) (fun _ _ _ _ _ => (ed_ix (ed_var 2) ed_int))) ad_nil) B.max rfl hr.units)))
theorem ok__law_same (B : Bi mg) (F : FunD K "_law_same" "_law_same" (defArgs s__law_same) (defBody s__law_same) (defScope s__law_same) dvs kws f fd) (hc : ∀ {k : Nat} {sp : Sp}, FnOk P w K mg base CX0 k f fd ["_law_one", "_law_other"] sp → Kf P w K mg base k "_law_same" sp []) : ∀ N, FnOk P w K mg base CX0 (1 + N) f fd ["_law_one", "_law_other"] (spD K 2 (R__law_same N)) := by
  intro N
  induction N with
  | zero => exact fn_void
  | succ N ih =>
    have c__law_same := hc ih
    exact fnD F sc__law_same rfl rfl fun cdv A outer s H E hr => (ssd_cons (sd_if (td_val (ed_isi .tuple (ed_var 1) B.isinstance B.tuple))
  (ssd_cons (sd_if (WD.td (wd_or (td_not (td_val (ed_isi .tuple (ed_var 0) B.isinstance B.tuple))) (wd_or1 (td_cmp vb_ne (op_neD hr.units) (nomark _) (ed_cb vc_len call_len_seq B.len (ad_cons (ed_var 0) ad_nil)) (ed_cb vc_len call_len_seq B.len (ad_cons (ed_var 1) ad_nil))))))
  (ssd_one (sd_ret ed_bl))
  ssd_nil)
  (ssd_cons (sd_for rfl PassesOwn.never (id_rng1 (ed_cb vc_len call_len_seq B.len (ad_cons (ed_var 1) ad_nil)) B.range) (gd_name (i := 2) sc__law_same.nd rfl (by first | exact .inl rfl | exact .inr rfl))
  (ssd_one (sd_if (td_not (td_val (ed_call c__law_same hr (Nat.le_refl _) dvs0 (len__law_same N) (ad_cons (ed_ix (ed_var 0) (ed_var 2)) (ad_cons (ed_ix (ed_var 1) (ed_var 2)) ad_nil)))))
  (ssd_one (sd_ret ed_bl))
  ssd_nil)))
  (ssd_cons (sd_ret ed_bl)
  ssd_nil)))
  ssd_nil)
  (ssd_cons (sd_if (td_val (ed_isi .bool (ed_var 1) B.isinstance B.bool))
  (ssd_one (sd_ret (ed_and (ed_isi .bool (ed_var 0) B.isinstance B.bool) (ed_one (ed_cmp vb_eq (op_eqD hr.units) (nomark _) (ed_var 0) (ed_var 1))))))
  ssd_nil)
  (ssd_cons (sd_ret (ed_and (ed_isi .int (ed_var 0) B.isinstance B.int) (ed_and (ed_not (ed_isi .bool (ed_var 0) B.isinstance B.bool)) (ed_one (ed_cmp vb_eq (op_eqD hr.units) (nomark _) (ed_var 0) (ed_var 1))))))
  ssd_nil)))
theorem ok__law_small (B : Bi mg) (F : FunD K "_law_small" "_law_small" (defArgs s__law_small) (defBody s__law_small) (defScope s__law_small) dvs kws f fd) (c__law_any : Kf P w K mg base 1 "_law_any" (spD K 3 F__law_any) []) (c__law_draw : Kf P w K mg base 1 "_law_draw" (spD K 3 F__law_draw) []) (c__law_heights : Kf P w K mg base 2 "_law_heights" (spD K 3 F__law_heights) []) (c__law_same : Kf P w K mg base 9 "_law_same" (spD K 2 F__law_same) []) (c__law_tree : Kf P w K mg base 1 "_law_tree" (spD K 2 F__law_tree) []) (c_can_keep : Kf P w K mg base 6 "can_keep" (spD K 2 F_can_keep) []) (c_rows_of : Kf P w K mg base 6 "rows_of" (spD K 2 F_rows_of) []) (c_rows_of_kw0_1_0 : KfK P w K mg base 6 "rows_of" (spD K 2 F_rows_of) 0 ["bounds", "history"] [1, 0]) (c_top_of : Kf P w K mg base 7 "top_of" (spD K 2 F_top_of) []) (c_walk_heights : Kf P w K mg base 7 "walk_heights" (spD K 2 F_walk_heights) []) : FnOk P w K mg base CX0 10 f fd ["_law_script"] (spD K 1 F__law_small) :=
  fnD F sc__law_small rfl rfl fun cdv A outer s H E hr => (ssd_cons (sd_setF 1 sc__law_small.nd (ed_call c__law_draw hr (by decide) dvs0 runF_len (ad_cons (ed_var 0) (ad_cons ed_int (ad_cons ed_int ad_nil)))))
  (ssd_cons (sd_setF 2 sc__law_small.nd (ed_ix (ed_tup (ad_cons ed_int (ad_cons ed_int (ad_cons ed_int (ad_cons ed_int (ad_cons ed_int (ad_cons ed_int (ad_cons ed_int (ad_cons ed_int (ad_cons ed_int (ad_cons ed_int (ad_cons ed_int (ad_cons ed_int ad_nil))))))))))))) (ed_op vb_mod op_mod (ed_ct vc_int call_int1 B.int (ad_cons (ed_ix (ed_var 1) ed_int) ad_nil)) ed_int)))
  (ssd_cons (sd_setF 3 sc__law_small.nd (ed_call c__law_tree hr (by decide) dvs0 runF_len (ad_cons (ed_call c__law_draw hr (by decide) dvs0 runF_len (ad_cons (ed_var 0) (ad_cons ed_int (ad_cons ed_int ad_nil)))) (ad_cons (ed_var 2) ad_nil))))
  (ssd_cons (sd_setF 4 sc__law_small.nd (ed_ix (ed_tup (ad_cons ed_int (ad_cons ed_int (ad_cons ed_int (ad_cons ed_int (ad_cons ed_int (ad_cons ed_int ad_nil))))))) (ed_var 2)))
  (ssd_cons (sd_setF 5 sc__law_small.nd (ed_op vb_add op_add3 ed_int (ed_op vb_mod op_mod (ed_ct vc_int call_int1 B.int (ad_cons (ed_ix (ed_var 1) ed_int) ad_nil)) (ed_cb vc_min2 (call_min2 rfl) B.min (ad_cons ed_int (ad_cons (ed_var 4) ad_nil))))))
  (ssd_cons (sd_setF 6 sc__law_small.nd (ed_call c__law_any hr (by decide) dvs0 runF_len (ad_cons (ed_call c__law_draw hr (by decide) dvs0 runF_len (ad_cons (ed_var 0) (ad_cons ed_int (ad_cons ed_int ad_nil)))) (ad_cons (ed_var 2) (ad_cons (ed_var 5) ad_nil)))))
  (ssd_cons (sd_setF 7 sc__law_small.nd (ed_cb vc_min2 (call_min2 rfl) B.min (ad_cons (ed_var 4) (ad_cons (ed_op vb_add op_add3 (ed_var 5) (ed_op vb_mod op_mod (ed_ct vc_int call_int1 B.int (ad_cons (ed_ix (ed_var 1) ed_int) ad_nil)) ed_int)) ad_nil))))
  (ssd_cons (sd_setF 8 sc__law_small.nd (ed_call c__law_heights hr (by decide) dvs0 runF_len (ad_cons (ed_var 3) (ad_cons (ed_var 6) (ad_cons (ed_var 7) ad_nil)))))
  (ssd_cons (sd_setF 9 sc__law_small.nd (ed_call c_top_of hr (by decide) dvs0 runF_len (ad_cons (ed_var 3) (ad_cons (ed_var 6) ad_nil))))
  (ssd_cons (by first | exact sd_setLcF 10 (own := [("_law_state", 13)]) rfl sc__law_small.nd (id_seq (ed_var 8)) (by first | decide | with_unfolding_all rfl) (by decide) (fun _ _ _ _ _ => (gd_name (i := 13) sc__law_small.nd rfl (by first | exact .inl rfl | exact .inr rfl))) (fun _ _ _ _ _ => (ptd_one (td_cmp vq_le (oq_le hr.units) (nomark _) (ed_cb vc_maxB (cr_maxB rfl hr.units) B.max (ad_cons (ed_op vb_add op_add3 (ed_tup (ad_cons ed_int ad_nil)) (ed_ix (ed_var 13) ed_int)) ad_nil)) (ed_var 5)))) (fun _ _ _ _ _ => (ed_var 13)) | exact sd_setF 10 sc__law_small.nd (ed_lc (own := [("_law_state", 13)]) rfl sc__law_small.nd (id_seq (ed_var 8)) (by first | decide | with_unfolding_all rfl) (by decide) (fun _ _ _ _ _ => (gd_name (i := 13) sc__law_small.nd rfl (by first | exact .inl rfl | exact .inr rfl))) (fun _ _ _ _ _ => (ptd_one (td_cmp vq_le (oq_le hr.units) (nomark _) (ed_cb vc_maxB (cr_maxB rfl hr.units) B.max (ad_cons (ed_op vb_add op_add3 (ed_tup (ad_cons ed_int ad_nil)) (ed_ix (ed_var 13) ed_int)) ad_nil)) (ed_var 5)))) (fun _ _ _ _ _ => (ed_var 13))))
  (ssd_cons (sd_if (td_not (td_val (ed_call c__law_same hr (by decide) dvs0 (len__law_same 8) (ad_cons (ed_call c_can_keep hr (by decide) dvs0 runF_len (ad_cons (ed_var 3) (ad_cons (ed_var 6) ad_nil))) (ad_cons (ed_cmp vq_gt (oq_gt hr.units) (nomark _) (ed_cb vc_len call_len_seq B.len (ad_cons (ed_var 10) ad_nil)) ed_int) ad_nil)))))
  (ssd_one (sd_ret ed_bl))
  ssd_nil)
  (ssd_cons (sd_if (td_cmp vb_eq (op_eqD hr.units) (nomark _) (ed_cb vc_len call_len_seq B.len (ad_cons (ed_var 8) ad_nil)) ed_int)
  (ssd_one (sd_ret (ed_and (ed_isi .int (ed_var 9) B.isinstance B.int) (ed_and (ed_not (ed_isi .bool (ed_var 9) B.isinstance B.bool)) (ed_one (ed_cmp vq_gt (oq_gt hr.units) (nomark _) (ed_var 9) (ed_var 7)))))))
  ssd_nil)
  (ssd_cons (sd_setF 11 sc__law_small.nd (ed_ct vc_tuple call_tuple_of B.tuple (ad_cons (ed_lc (own := [("_law_k", 14)]) rfl sc__law_small.nd (id_rng1 (ed_var 2) B.range) (by first | decide | with_unfolding_all rfl) (by decide) (fun _ _ _ _ _ => (gd_name (i := 14) sc__law_small.nd rfl (by first | exact .inl rfl | exact .inr rfl))) (fun _ _ _ _ _ => ptd_nil) (fun _ _ _ _ _ => (ed_cb vc_minB (cr_minB rfl hr.units) B.min (ad_cons (ed_lc (own := [("_law_state", 13)]) rfl sc__law_small.nd (id_seq (ed_var 8)) (by first | decide | with_unfolding_all rfl) (by decide) (fun _ _ _ _ _ => (gd_name (i := 13) sc__law_small.nd rfl (by first | exact .inl rfl | exact .inr rfl))) (fun _ _ _ _ _ => ptd_nil) (fun _ _ _ _ _ => (ed_ix (ed_ix (ed_var 13) ed_int) (ed_var 14)))) ad_nil)))) ad_nil)))
  (ssd_cons (sd_if (WD.td (wd_or (td_not (td_val (ed_call c__law_same hr (by decide) dvs0 (len__law_same 8) (ad_cons (ed_call c_rows_of hr (by decide) dvs0 runF_len (ad_cons (ed_var 3) (ad_cons (ed_var 6) ad_nil))) (ad_cons (ed_var 11) ad_nil))))) (wd_or1 (td_not (td_val (ed_call c__law_same hr (by decide) dvs0 (len__law_same 8) (ad_cons (ed_callK0 c_rows_of_kw0_1_0 hr (by decide) runF_len (kd_cons (ed_var 6) (kd_cons (ed_var 3) kd_nil)) (len_cons (len_cons len_nil))) (ad_cons (ed_var 11) ad_nil))))))))
  (ssd_one (sd_ret ed_bl))
  ssd_nil)
  (ssd_cons (sd_setF 12 sc__law_small.nd (ed_call c_walk_heights hr (by decide) dvs0 runF_len (ad_cons (ed_var 3) (ad_cons (ed_var 6) ad_nil))))
  (ssd_cons (sd_if (td_not (td_val (ed_call c__law_same hr (by decide) dvs0 (len__law_same 8) (ad_cons (ed_var 12) (ad_cons (ed_ct vc_tuple call_tuple_of B.tuple (ad_cons (ed_lc (own := [("_law_row", 15)]) rfl sc__law_small.nd (id_seq (ed_var 11)) (by first | decide | with_unfolding_all rfl) (by decide) (fun _ _ _ _ _ => (gd_name (i := 15) sc__law_small.nd rfl (by first | exact .inl rfl | exact .inr rfl))) (fun _ _ _ _ _ => ptd_nil) (fun _ _ _ _ _ => (ed_ix (ed_var 15) (ed_neg ed_int)))) ad_nil)) ad_nil)))))
  (ssd_one (sd_ret ed_bl))
  ssd_nil)
  (ssd_cons (sd_if (td_not (td_val (ed_call c__law_same hr (by decide) dvs0 (len__law_same 8) (ad_cons (ed_var 9) (ad_cons (ed_cb vc_maxB (cr_maxB rfl hr.units) B.max (ad_cons (ed_op vb_add op_add3 (ed_lst (ad_cons ed_int ad_nil)) (ed_lc (own := [("_law_row", 15)]) rfl sc__law_small.nd (id_seq (ed_var 11)) (by first | decide | with_unfolding_all rfl) (by decide) (fun _ _ _ _ _ => (gd_name (i := 15) sc__law_small.nd rfl (by first | exact .inl rfl | exact .inr rfl))) (fun _ _ _ _ _ => ptd_nil) (fun _ _ _ _ _ => (ed_ix (ed_var 15) ed_int)))) ad_nil)) ad_nil)))))
  (ssd_one (sd_ret ed_bl))
  ssd_nil)
  (ssd_cons (sd_ret (ed_cmp vb_eq (op_eqD hr.units) (nomark _) (ed_cb vc_len call_len_seq B.len (ad_cons (ed_lc (own := [("_law_state", 13)]) rfl sc__law_small.nd (id_seq (ed_var 8)) (by first | decide | with_unfolding_all rfl) (by decide) (fun _ _ _ _ _ => (gd_name (i := 13) sc__law_small.nd rfl (by first | exact .inl rfl | exact .inr rfl))) (fun _ _ _ _ _ => (ptd_one (WD.td (wd_and (td_cmp vb_eq (op_eqD hr.units) (nomark _) (ed_ix (ed_var 13) ed_int) (ed_var 12)) (wd_and1 (td_cmp vb_eq (op_eqD hr.units) (nomark _) (ed_ix (ed_var 13) ed_int) (ed_var 11))))))) (fun _ _ _ _ _ => (ed_var 13))) ad_nil)) ed_int))
  ssd_nil))))))))))))))))))
theorem ok__law_told (B : Bi mg) (F : FunD K "_law_told" "_law_told" (defArgs s__law_told) (defBody s__law_told) (defScope s__law_told) dvs kws f fd) (c__law_open_row : Kf P w K mg base 1 "_law_open_row" (spD K 4 F__law_open_row) []) (c__law_same : Kf P w K mg base 9 "_law_same" (spD K 2 F__law_same) []) (c__law_walk : Kf P w K mg base 1 "_law_walk" (spD K 2 F__law_walk) []) (c_can_keep : Kf P w K mg base 6 "can_keep" (spD K 2 F_can_keep) []) (c_open_row : Kf P w K mg base 6 "open_row" (spD K 3 F_open_row) []) (c_rows_of : Kf P w K mg base 6 "rows_of" (spD K 2 F_rows_of) []) (c_top_of : Kf P w K mg base 7 "top_of" (spD K 2 F_top_of) []) (c_walk_heights_kw0_1_0 : KfK P w K mg base 7 "walk_heights" (spD K 2 F_walk_heights) 0 ["bounds", "history"] [1, 0]) : FnOk P w K mg base CX0 10 f fd ["_law_tree_here", "_law_bounds", "_law_pick"] (spD K 3 F__law_told) :=
  fnD F sc__law_told rfl rfl fun cdv A outer s H E hr => (ssd_cons (sd_setF 3 sc__law_told.nd (ed_call c_rows_of hr (by decide) dvs0 runF_len (ad_cons (ed_var 0) (ad_cons (ed_var 1) ad_nil))))
  (ssd_cons (sd_if (td_not (td_val (ed_call c__law_same hr (by decide) dvs0 (len__law_same 8) (ad_cons (ed_var 3) (ad_cons (ed_call c__law_walk hr (by decide) dvs0 runF_len (ad_cons (ed_var 0) (ad_cons (ed_var 1) ad_nil))) ad_nil)))))
  (ssd_one (sd_ret ed_bl))
  ssd_nil)
  (ssd_cons (sd_setF 4 sc__law_told.nd (ed_callK0 c_walk_heights_kw0_1_0 hr (by decide) runF_len (kd_cons (ed_var 1) (kd_cons (ed_var 0) kd_nil)) (len_cons (len_cons len_nil))))
  (ssd_cons (sd_if (td_not (td_val (ed_call c__law_same hr (by decide) dvs0 (len__law_same 8) (ad_cons (ed_var 4) (ad_cons (ed_ct vc_tuple call_tuple_of B.tuple (ad_cons (ed_lc (own := [("_law_row", 7)]) rfl sc__law_told.nd (id_seq (ed_var 3)) (by first | decide | with_unfolding_all rfl) (by decide) (fun _ _ _ _ _ => (gd_name (i := 7) sc__law_told.nd rfl (by first | exact .inl rfl | exact .inr rfl))) (fun _ _ _ _ _ => ptd_nil) (fun _ _ _ _ _ => (ed_ix (ed_var 7) (ed_neg ed_int)))) ad_nil)) ad_nil)))))
  (ssd_one (sd_ret ed_bl))
  ssd_nil)
  (ssd_cons (sd_setF 5 sc__law_told.nd (ed_cb vc_maxB (cr_maxB rfl hr.units) B.max (ad_cons (ed_op vb_add op_add3 (ed_lst (ad_cons ed_int ad_nil)) (ed_lc (own := [("_law_row", 7)]) rfl sc__law_told.nd (id_seq (ed_var 3)) (by first | decide | with_unfolding_all rfl) (by decide) (fun _ _ _ _ _ => (gd_name (i := 7) sc__law_told.nd rfl (by first | exact .inl rfl | exact .inr rfl))) (fun _ _ _ _ _ => ptd_nil) (fun _ _ _ _ _ => (ed_ix (ed_var 7) ed_int)))) ad_nil)))
  (ssd_cons (sd_if (td_not (td_val (ed_call c__law_same hr (by decide) dvs0 (len__law_same 8) (ad_cons (ed_tup (ad_cons (ed_call c_top_of hr (by decide) dvs0 runF_len (ad_cons (ed_var 0) (ad_cons (ed_var 1) ad_nil))) (ad_cons (ed_call c_can_keep hr (by decide) dvs0 runF_len (ad_cons (ed_var 0) (ad_cons (ed_var 1) ad_nil))) ad_nil))) (ad_cons (ed_tup (ad_cons (ed_var 5) (ad_cons (ed_cmp vq_le (oq_le hr.units) (nomark _) (ed_var 5) (ed_ix (ed_var 1) ed_int)) ad_nil))) ad_nil)))))
  (ssd_one (sd_ret ed_bl))
  ssd_nil)
  (ssd_cons (sd_for rfl PassesOwn.never (id_rng2 ed_int (ed_op vb_add op_add3 (ed_cb vc_len call_len_seq B.len (ad_cons (ed_var 0) ad_nil)) ed_int) B.range) (gd_name (i := 6) sc__law_told.nd rfl (by first | exact .inl rfl | exact .inr rfl))
  (ssd_one (sd_if (td_not (td_val (ed_call c__law_same hr (by decide) dvs0 (len__law_same 8) (ad_cons (ed_ix (ed_var 3) (ed_op vb_sub op_sub (ed_var 6) ed_int)) (ad_cons (ed_call c__law_open_row hr (by decide) dvs0 runF_len (ad_cons (ed_var 0) (ad_cons (ed_var 4) (ad_cons (ed_var 6) (ad_cons ed_int ad_nil))))) ad_nil)))))
  (ssd_one (sd_ret ed_bl))
  ssd_nil)))
  (ssd_cons (sd_if (td_cmp vb_eq (op_eqD hr.units) (nomark _) (ed_cb vc_len call_len_seq B.len (ad_cons (ed_var 0) ad_nil)) ed_int)
  (ssd_one (sd_ret ed_bl))
  ssd_nil)
  (ssd_cons (sd_setF 6 sc__law_told.nd (ed_op vb_add op_add3 ed_int (ed_op vb_mod op_mod (ed_ct vc_int call_int1 B.int (ad_cons (ed_var 2) ad_nil)) (ed_cb vc_len call_len_seq B.len (ad_cons (ed_var 0) ad_nil)))))
  (ssd_cons (sd_ret (ed_call c__law_same hr (by decide) dvs0 (len__law_same 8) (ad_cons (ed_call c_open_row hr (by decide) dvs0 runF_len (ad_cons (ed_var 0) (ad_cons (ed_var 4) (ad_cons (ed_var 6) ad_nil)))) (ad_cons (ed_ix (ed_var 3) (ed_op vb_sub op_sub (ed_var 6) ed_int)) ad_nil))))
  ssd_nil))))))))))
theorem ok__law_great (B : Bi mg) (F : FunD K "_law_great" "_law_great" (defArgs s__law_great) (defBody s__law_great) (defScope s__law_great) dvs kws f fd) (c__law_any : Kf P w K mg base 1 "_law_any" (spD K 3 F__law_any) []) (c__law_draw : Kf P w K mg base 1 "_law_draw" (spD K 3 F__law_draw) []) (c__law_open_row : Kf P w K mg base 1 "_law_open_row" (spD K 4 F__law_open_row) []) (c__law_same : Kf P w K mg base 9 "_law_same" (spD K 2 F__law_same) []) (c__law_told : Kf P w K mg base 10 "_law_told" (spD K 3 F__law_told) []) (c__law_tree : Kf P w K mg base 1 "_law_tree" (spD K 2 F__law_tree) []) (c_can_keep : Kf P w K mg base 6 "can_keep" (spD K 2 F_can_keep) []) (c_rows_of : Kf P w K mg base 6 "rows_of" (spD K 2 F_rows_of) []) : FnOk P w K mg base CX0 11 f fd ["_law_script"] (spD K 1 F__law_great) :=
  fnD F sc__law_great rfl rfl fun cdv A outer s H E hr => (ssd_cons (sd_setF 1 sc__law_great.nd (ed_call c__law_draw hr (by decide) dvs0 runF_len (ad_cons (ed_var 0) (ad_cons ed_int (ad_cons ed_int ad_nil)))))
  (ssd_cons (sd_setF 2 sc__law_great.nd (ed_ix (ed_tup (ad_cons ed_int (ad_cons ed_int (ad_cons ed_int (ad_cons ed_int (ad_cons ed_int (ad_cons ed_int (ad_cons ed_int (ad_cons ed_int (ad_cons ed_int (ad_cons ed_int (ad_cons ed_int (ad_cons ed_int (ad_cons ed_int (ad_cons ed_int (ad_cons ed_int (ad_cons ed_int ad_nil))))))))))))))))) (ed_op vb_mod op_mod (ed_ct vc_int call_int1 B.int (ad_cons (ed_ix (ed_var 1) ed_int) ad_nil)) ed_int)))
  (ssd_cons (sd_setF 3 sc__law_great.nd (ed_call c__law_tree hr (by decide) dvs0 runF_len (ad_cons (ed_call c__law_draw hr (by decide) dvs0 runF_len (ad_cons (ed_var 0) (ad_cons ed_int (ad_cons ed_int ad_nil)))) (ad_cons (ed_var 2) ad_nil))))
  (ssd_cons (sd_setF 4 sc__law_great.nd (ed_call c__law_draw hr (by decide) dvs0 runF_len (ad_cons (ed_var 0) (ad_cons ed_int (ad_cons ed_int ad_nil)))))
  (ssd_cons (sd_setF 5 sc__law_great.nd (ed_ix (ed_tup (ad_cons ed_int (ad_cons ed_int (ad_cons ed_int (ad_cons ed_int (ad_cons ed_int (ad_cons ed_int ad_nil))))))) (ed_op vb_mod op_mod (ed_ct vc_int call_int1 B.int (ad_cons (ed_ix (ed_var 1) ed_int) ad_nil)) ed_int)))
  (ssd_cons (sd_setF 6 sc__law_great.nd (ed_ct vc_tuple call_tuple_of B.tuple (ad_cons (ed_lc (own := [("_law_k", 14)]) rfl sc__law_great.nd (id_rng1 (ed_var 2) B.range) (by first | decide | with_unfolding_all rfl) (by decide) (fun _ _ _ _ _ => (gd_name (i := 14) sc__law_great.nd rfl (by first | exact .inl rfl | exact .inr rfl))) (fun _ _ _ _ _ => ptd_nil) (fun _ _ _ _ _ => (ed_op vb_add op_add3 ed_int (ed_op vb_mod op_mod (ed_ct vc_int call_int1 B.int (ad_cons (ed_ix (ed_var 4) (ed_var 14)) ad_nil)) (ed_var 5))))) ad_nil)))
  (ssd_cons (sd_setF 7 sc__law_great.nd (ed_op vb_add op_add3 (ed_cb vc_maxB (cr_maxB rfl hr.units) B.max (ad_cons (ed_op vb_add op_add3 (ed_tup (ad_cons ed_int ad_nil)) (ed_var 6)) ad_nil)) (ed_op vb_mod op_mod (ed_ct vc_int call_int1 B.int (ad_cons (ed_ix (ed_var 1) ed_int) ad_nil)) ed_int)))
  (ssd_cons (sd_setF 8 sc__law_great.nd (ed_call c__law_draw hr (by decide) dvs0 runF_len (ad_cons (ed_var 0) (ad_cons ed_int (ad_cons ed_int ad_nil)))))
  (ssd_cons (sd_set 9 sc__law_great.nd (ed_lst ad_nil))
  (ssd_cons (sd_set 10 sc__law_great.nd (ed_lst ad_nil))
  (ssd_cons (sd_for rfl PassesOwn.never (id_rng2 ed_int (ed_op vb_add op_add3 (ed_var 2) ed_int) B.range) (gd_name (i := 11) sc__law_great.nd rfl (by first | exact .inl rfl | exact .inr rfl))
  (ssd_cons (sd_expr (ed_app 9 (ed_call c__law_open_row hr (by decide) dvs0 runF_len (ad_cons (ed_var 3) (ad_cons (ed_var 6) (ad_cons (ed_var 11) (ad_cons ed_int ad_nil)))))))
  (ssd_cons (sd_setF 16 sc__law_great.nd (ed_ix (ed_var 6) (ed_op vb_sub op_sub (ed_var 11) ed_int)))
  (ssd_cons (sd_if (td_cmp vb_eq (op_eqD hr.units) (nomark _) (ed_op vb_mod op_mod (ed_ct vc_int call_int1 B.int (ad_cons (ed_ix (ed_var 8) (ed_op vb_sub op_sub (ed_var 11) ed_int)) ad_nil)) ed_int) ed_int)
  (ssd_one (sd_setF 16 sc__law_great.nd (ed_op vb_add op_add3 ed_int (ed_op vb_mod op_mod (ed_ct vc_int call_int1 B.int (ad_cons (ed_op vb_div op_fdiv (ed_ix (ed_var 8) (ed_op vb_sub op_sub (ed_var 11) ed_int)) ed_int) ad_nil)) (ed_var 16)))))
  ssd_nil)
  (ssd_cons (sd_expr (ed_app 10 (ed_tup (ad_cons (ed_op vb_add op_add3 (ed_cb vc_len call_len_seq B.len (ad_cons (ed_ix (ed_var 9) (ed_neg ed_int)) ad_nil)) (ed_ct vc_int call_int1 B.int (ad_cons (ed_cmp vb_eq (op_eqD hr.units) (nomark _) (ed_op vb_mod op_mod (ed_ct vc_int call_int1 B.int (ad_cons (ed_op vb_div op_fdiv (ed_ix (ed_var 8) (ed_op vb_sub op_sub (ed_var 11) ed_int)) ed_int) ad_nil)) ed_int) ed_int) ad_nil))) (ad_cons (ed_op vb_sub op_sub (ed_op vb_add op_add3 (ed_var 7) ed_int) (ed_var 16)) ad_nil)))))
  ssd_nil)))))
  (ssd_cons (sd_setF 12 sc__law_great.nd (ed_tup (ad_cons (ed_var 7) (ad_cons (ed_ct vc_tuple call_tuple_of B.tuple (ad_cons (ed_var 10) ad_nil)) ad_nil))))
  (ssd_cons (sd_if (WD.td (wd_or (td_not (td_val (ed_call c__law_told hr (by decide) dvs0 runF_len (ad_cons (ed_var 3) (ad_cons (ed_var 12) (ad_cons (ed_ix (ed_var 1) ed_int) ad_nil)))))) (wd_or1 (td_not (td_val (ed_call c__law_same hr (by decide) dvs0 (len__law_same 8) (ad_cons (ed_call c_can_keep hr (by decide) dvs0 runF_len (ad_cons (ed_var 3) (ad_cons (ed_var 12) ad_nil))) (ad_cons ed_bl ad_nil))))))))
  (ssd_one (sd_ret ed_bl))
  ssd_nil)
  (ssd_cons (sd_setF 13 sc__law_great.nd (ed_call c_rows_of hr (by decide) dvs0 runF_len (ad_cons (ed_var 3) (ad_cons (ed_var 12) ad_nil))))
  (ssd_cons (sd_for rfl PassesOwn.never (id_rng1 (ed_var 2) B.range) (gd_name (i := 14) sc__law_great.nd rfl (by first | exact .inl rfl | exact .inr rfl))
  (ssd_one (sd_if (td_cmp vq_gt (oq_gt hr.units) (nomark _) (ed_ix (ed_var 13) (ed_var 14)) (ed_ix (ed_var 9) (ed_var 14)))
  (ssd_one (sd_ret ed_bl))
  ssd_nil)))
  (ssd_cons (sd_setF 15 sc__law_great.nd (ed_call c__law_any hr (by decide) dvs0 runF_len (ad_cons (ed_call c__law_draw hr (by decide) dvs0 runF_len (ad_cons (ed_var 0) (ad_cons ed_int (ad_cons ed_int ad_nil)))) (ad_cons (ed_var 2) (ad_cons (ed_ix (ed_tup (ad_cons ed_int (ad_cons ed_int (ad_cons ed_int (ad_cons ed_int (ad_cons ed_int (ad_cons ed_int (ad_cons ed_int (ad_cons ed_int ad_nil))))))))) (ed_op vb_mod op_mod (ed_ct vc_int call_int1 B.int (ad_cons (ed_ix (ed_var 1) ed_int) ad_nil)) ed_int)) ad_nil)))))
  (ssd_cons (sd_ret (ed_call c__law_told hr (by decide) dvs0 runF_len (ad_cons (ed_var 3) (ad_cons (ed_var 15) (ad_cons (ed_ix (ed_var 1) ed_int) ad_nil)))))
  ssd_nil)))))))))))))))))
theorem ok_law (F : FunD K "law" "law" (defArgs s_law) (defBody s_law) (defScope s_law) dvs kws f fd) (c__law_great : Kf P w K mg base 11 "_law_great" (spD K 1 F__law_great) []) (c__law_small : Kf P w K mg base 10 "_law_small" (spD K 1 F__law_small) []) : FnOk P w K mg base CX0 12 f fd ["_law_script"] (spD K 1 F_law) :=
  fnD F sc_law rfl rfl fun cdv A outer s H E hr => (ssd_one (sd_ret (ed_and (ed_call c__law_small hr (by decide) dvs0 runF_len (ad_cons (ed_var 0) ad_nil)) (ed_one (ed_call c__law_great hr (by decide) dvs0 runF_len (ad_cons (ed_var 0) ad_nil))))))
end
end K15
namespace K15
open PySem PySem.Spec PyProof.Rows L2 DL
/-! ### the program's small defs -/
theorem v_is_integer (i : Int) : F_is_integer [.int i] = some (.im (.bool true)) := by
  refine w_eq rfl ?_
  (first | refine w_seq (w_setF' ?_) | refine w_seq (w_set' ?_) | refine w_seq (w_drop' ?_) | refine w_seq (w_ret' ?_) | refine w_ret' ?_ | refine w_drop' ?_ | refine w_setF' ?_ | refine w_set' ?_) <;> simp [evs2, x_ix, and_assoc]
theorem v_is_natural (i : Int) : F_is_natural [.int i] = some (.im (.bool (decide (1 ≤ i)))) := by
  refine w_eq rfl ?_
  (first | refine w_seq (w_setF' ?_) | refine w_seq (w_set' ?_) | refine w_seq (w_drop' ?_) | refine w_seq (w_ret' ?_) | refine w_ret' ?_ | refine w_drop' ?_ | refine w_setF' ?_ | refine w_set' ?_) <;> simp [evs2, x_ix, and_assoc, v_is_integer]
theorem v_up_to (i j : Int) : F_up_to [.int i, .int j] = some (.im (.bool (decide (1 ≤ i) && decide (i ≤ j)))) := by
  refine w_eq rfl ?_
  by_cases h : 1 ≤ i <;> (first | refine w_seq (w_setF' ?_) | refine w_seq (w_set' ?_) | refine w_seq (w_drop' ?_) | refine w_seq (w_ret' ?_) | refine w_ret' ?_ | refine w_drop' ?_ | refine w_setF' ?_ | refine w_set' ?_) <;> simp [evs2, x_ix, and_assoc, v_is_natural, h]
theorem v_is_pair (a b : PyData) : F_is_pair [.tuple [a, b]] = some (.im (.bool true)) := by
  refine w_eq rfl ?_
  (first | refine w_seq (w_setF' ?_) | refine w_seq (w_set' ?_) | refine w_seq (w_drop' ?_) | refine w_seq (w_ret' ?_) | refine w_ret' ?_ | refine w_drop' ?_ | refine w_setF' ?_ | refine w_set' ?_) <;> simp [evs2, x_ix, and_assoc]
theorem v_falling (ns : List Int) : F_falling [.list (ns.map PyData.int)] = some (.im (tZ (downI ns))) := by
  refine w_eq rfl ?_
  (first | refine w_seq (w_setF' ?_) | refine w_seq (w_set' ?_) | refine w_seq (w_drop' ?_) | refine w_seq (w_ret' ?_) | refine w_ret' ?_ | refine w_drop' ?_ | refine w_setF' ?_ | refine w_set' ?_) <;> simp [evs2, x_ix, and_assoc]
/-- the step's height -/
def sh (w : Nat) (f : Int) (row : List Int) : Int := if w ≤ row.length ∧ f ≤ gv row w then gv row w + 1 else f
def srow (w : Nat) (f : Int) (row : List Int) : List Int := (row.filter fun m => decide (sh w f row ≤ m)) ++ [sh w f row]
theorem v_row_after {w : Nat} {f : Int} {row : List Int} (hw : 1 ≤ w) (hl : row.length ≤ 100000) : F_row_after [.int (w : Int), .int f, tZ row] = some (.im (tZ (srow w f row))) := by
  refine w_eq rfl ?_
  (first | refine w_seq (w_setF' ?_) | refine w_seq (w_set' ?_) | refine w_seq (w_drop' ?_) | refine w_seq (w_ret' ?_) | refine w_ret' ?_ | refine w_drop' ?_ | refine w_setF' ?_ | refine w_set' ?_) <;> simp [evs2, x_ix, and_assoc]
  refine w_seqE [im (.int w), im (.int f), im (tZ row), im (.int (sh w f row)), none] ?_ ?_
  · by_cases h1 : w ≤ row.length
    · by_cases h2 : f ≤ gv row w
      · (first | refine w_seq (w_if' ?_) | refine w_if' ?_) <;> simp [evs2, x_ix, and_assoc, h1, h2, ixv (f := PyData.int) hw h1]
        (first | refine w_seq (w_setF' ?_) | refine w_seq (w_set' ?_) | refine w_seq (w_drop' ?_) | refine w_seq (w_ret' ?_) | refine w_ret' ?_ | refine w_drop' ?_ | refine w_setF' ?_ | refine w_set' ?_) <;> simp [evs2, x_ix, and_assoc, ixv (f := PyData.int) hw h1, sh, h1, h2]
      · (first | refine w_seq (w_if' ?_) | refine w_if' ?_) <;> simp [evs2, x_ix, and_assoc, h1, h2, ixv (f := PyData.int) hw h1]
        simp [sh, h2]
    · (first | refine w_seq (w_if' ?_) | refine w_if' ?_) <;> simp [evs2, x_ix, and_assoc, h1]
      simp [sh, h1]
  · (first | refine w_seq (w_setF' ?_) | refine w_seq (w_set' ?_) | refine w_seq (w_drop' ?_) | refine w_seq (w_ret' ?_) | refine w_ret' ?_ | refine w_drop' ?_ | refine w_setF' ?_ | refine w_set' ?_) <;> simp [evs2, x_ix, and_assoc]
    rw [lcT row PyData.int (fun m => decide (sh w f row ≤ m)) PyData.int]
    · have len : (row.filter fun m => decide (sh w f row ≤ m)).length ≤ 100000 := Nat.le_trans (List.length_filter_le _ _) hl
      have c := e_catT (a := (row.filter fun m => decide (sh w f row ≤ m)).map PyData.int) (b := [.int (sh w f row)]) (by simp; omega)
      simp [evs2, x_ix, and_assoc, okLen, c, srow]
    · simp [evs2, x_ix, and_assoc]
    · rfl
    · omega
    · intro a _
      simp [evs2, x_ix, and_assoc, wipeE]
/-! bounds -/
abbrev pD (x : Nat × Int) : PyData := .tuple [nD x.1, .int x.2]
abbrev bD (R : Int) (ws : List (Nat × Int)) : PyData := .tuple [.int R, .tuple (ws.map pD)]
structure OkB (n : Nat) (R : Int) (ws : List (Nat × Int)) : Prop where
  r1 : 1 ≤ R
  r2 : R ≤ 999
  len : ws.length = n
  all : ∀ x ∈ ws, 1 ≤ x.1 ∧ x.1 ≤ 999 ∧ 1 ≤ x.2 ∧ x.2 ≤ R
theorem v_step_of {R : Int} {ws : List (Nat × Int)} {v : Nat} {mem : List Int} (h1 : 1 ≤ v) (h2 : v ≤ ws.length) (hw : 1 ≤ (gv ws v).1) (hl : mem.length ≤ 100000) :
    F_step_of [bD R ws, nD v, lZ mem] = some (.im (tZ (srow (gv ws v).1 (R + 1 - (gv ws v).2) (downI mem)))) := by
  have q := v_row_after (w := (gv ws v).1) (f := R + 1 - (gv ws v).2) (row := downI mem) hw (by rw [downI_len]; exact hl)
  refine w_eq rfl ?_
  refine w_seq (w_asg' ?_)
  simp [evs2, x_ix, and_assoc]
  refine w_seq (w_asg' ?_)
  simp [evs2, x_ix, and_assoc, nD, ixv (f := pD) h1 h2, pD]
  (first | refine w_seq (w_setF' ?_) | refine w_seq (w_set' ?_) | refine w_seq (w_drop' ?_) | refine w_seq (w_ret' ?_) | refine w_ret' ?_ | refine w_drop' ?_ | refine w_setF' ?_ | refine w_set' ?_) <;> simp [evs2, x_ix, and_assoc, v_falling, q]
theorem v_all {P : List PyData} (h : P.length ≤ 1000) : F_all_versions [.tuple P] = some (.im (.tuple ((List.range P.length).map fun k => nD (k + 1)))) := by
  refine w_eq rfl ?_
  refine w_ret (trg1 (n := P.length) (e1 := [im (.tuple P)]) ?_ (by omega)) ⟨_, rfl, rfl⟩
  simp [evs2, x_ix, and_assoc]
theorem v_near {P : List Nat} {ms : List Bool} {v : Nat} (h1 : 1 ≤ v) (h2 : v ≤ P.length) (hm : gv P v = 0 ∨ (gv P v < ms.length ∧ gv ms (gv P v + 1) = true)) : F_near_elder [tN P, .list (ms.map PyData.bool), nD v] = some (.im (nD (gv P v))) := by
  refine w_eq rfl ?_
  (first | refine w_seq (w_setF' ?_) | refine w_seq (w_set' ?_) | refine w_seq (w_drop' ?_) | refine w_seq (w_ret' ?_) | refine w_ret' ?_ | refine w_drop' ?_ | refine w_setF' ?_ | refine w_set' ?_) <;> simp [evs2, x_ix, and_assoc, nD, ixv (f := nD) h1 h2]
  refine w_seq (w_while (fun k e => k = 0 ∧ e = [im (tN P), im (.list (ms.map PyData.bool)), im (.int v), im (nD (gv P v))]) 0 ⟨rfl, rfl⟩ (by simp [fuI, nD]) fun k e h => ?_)
  obtain ⟨rfl, rfl⟩ := h
  refine ⟨false, [im (tN P), im (.list (ms.map PyData.bool)), im (.int v), im (nD (gv P v))], ?_, fun _ => ?_, fun h => by cases h⟩
  · rcases hm with hm | ⟨hm, hm2⟩
    · simp [evs2, x_ix, and_assoc, nD, hm]
    · by_cases z : gv P v = 0
      · simp [evs2, x_ix, and_assoc, nD, z]
      · have ix := ixzL (f := PyData.bool) (l := ms) (i := ((gv P v : Nat) : Int)) (by omega) (by omega)
        simp [evs2, x_ix, and_assoc, nD, z, ix, hm2]
  · show wS _ _ _
    (first | refine w_seq (w_setF' ?_) | refine w_seq (w_set' ?_) | refine w_seq (w_drop' ?_) | refine w_seq (w_ret' ?_) | refine w_ret' ?_ | refine w_drop' ?_ | refine w_setF' ?_ | refine w_set' ?_) <;> simp [evs2, x_ix, and_assoc, nD]
end K15
namespace K15
open PySem PySem.Spec PyProof.Rows L2 DL
/-! ### falling lists -/
abbrev Down (l : List Int) : Prop := l.Pairwise (· ≥ ·)
theorem down_downI (l : List Int) : Down (downI l) := by
  have z := List.pairwise_mergeSort (le := fun a b : Int => decide (b ≤ a)) (fun a b c h1 h2 => by simp at *; omega) (fun a b => by simp; omega) l
  exact z.imp fun h => by simpa using h
theorem downI_self {l : List Int} (h : Down l) : downI l = l := (downI_uniq (List.Perm.refl l) h).symm
theorem downI_congr {l m : List Int} (h : l.Perm m) : downI l = downI m := downI_uniq ((downI_perm l).trans h) (down_downI l)
theorem filter_few {h : Int} : ∀ {l : List Int} {k : Nat}, Down l → k < l.length → (∀ x, l[k]? = some x → x < h) → (l.filter fun m => decide (h ≤ m)).length ≤ k
  | a :: l, 0, d, _, hx => by
    have ha := hx a rfl
    have hn : ∀ m ∈ a :: l, ¬ h ≤ m := fun m hm => by
      rcases List.mem_cons.mp hm with z | z
      · omega
      · have := List.rel_of_pairwise_cons d z
        omega
    rw [List.filter_eq_nil_iff.mpr fun m hm => by simpa using hn m hm]
    exact Nat.le_refl _
  | a :: l, k + 1, d, hk, hx => by
    have ih := filter_few (h := h) (l := l) (k := k) (List.pairwise_cons.mp d).2 (by simpa using hk) fun x z => hx x (by simpa using z)
    rw [List.filter_cons]
    split
    · rw [List.length_cons]
      omega
    · omega
theorem gv_of {l : List Int} {w : Nat} (h : 1 ≤ w) (h2 : w ≤ l.length) : l[w - 1]? = some (gv l w) := by
  have := gv_get (l := l) (k := w - 1) (by omega)
  rwa [Nat.sub_add_cancel h] at this
theorem srow_len {w : Nat} {f : Int} {row : List Int} (hw : 1 ≤ w) (d : Down row) : (srow w f row).length ≤ w := by
  unfold srow
  rw [List.length_append]
  show _ + 1 ≤ w
  have key : (row.filter fun m => decide (sh w f row ≤ m)).length ≤ w - 1 := by
    by_cases h : w ≤ row.length
    · refine filter_few d (by omega) fun x hx => ?_
      rw [gv_of hw h] at hx
      cases hx
      unfold sh
      split
      · omega
      · rename_i z
        have : ¬ f ≤ gv row w := fun y => z ⟨h, y⟩
        omega
    · have := List.length_filter_le (fun m => decide (sh w f row ≤ m)) row
      omega
  omega
theorem srow_down {w : Nat} {f : Int} {row : List Int} (d : Down row) : Down (srow w f row) := by
  unfold srow
  refine List.pairwise_append.mpr ⟨d.filter _, by simp, fun a ha b hb => ?_⟩
  have := (List.mem_filter.mp ha).2
  rw [List.mem_singleton.mp hb]
  simpa using this
/-! ### the walk -/
section
variable (W : Nat → Nat) (F : Nat → Int) (p : Nat → Nat) (n : Nat)
def rwo (v : Nat) (mem : List Int) : List Int := srow (W v) (F v) (downI mem)
/-- what lies below u once k versions are gone through, from the last one on -/
def bl : Nat → Nat → List Int
  | 0, _ => []
  | k + 1, u => if u = p (n - k) then bl k u ++ rwo W F (n - k) (bl k (n - k)) else bl k u
theorem bl_succ (k u : Nat) : bl W F p n (k + 1) u = if u = p (n - k) then bl W F p n k u ++ rwo W F (n - k) (bl W F p n k (n - k)) else bl W F p n k u := rfl
def row (v : Nat) : List Int := rwo W F v (bl W F p n (n - v) v)
end
section
variable {W : Nat → Nat} {F : Nat → Int} {p : Nat → Nat} {n : Nat}
theorem rwo_len {v : Nat} (h : 1 ≤ W v) (mem : List Int) : (rwo W F v mem).length ≤ W v := srow_len h (down_downI mem)
theorem bl_len (hw : ∀ v, 1 ≤ v → v ≤ n → 1 ≤ W v ∧ W v ≤ 999) : ∀ k, k ≤ n → ∀ u, (bl W F p n k u).length ≤ 999 * k
  | 0, _, u => by simp [bl]
  | k + 1, hk, u => by
    have ih := bl_len hw k (by omega) u
    unfold bl
    split
    · have h := hw (n - k) (by omega) (by omega)
      have l := rwo_len (F := F) h.1 (bl W F p n k (n - k))
      rw [List.length_append]
      omega
    · omega
end
end K15
namespace K15
open PySem PySem.Spec PyProof.Rows L2 DL
/-! ### walked -/
abbrev Wf (ws : List (Nat × Int)) : Nat → Nat := fun v => (gv ws v).1
abbrev Ff (R : Int) (ws : List (Nat × Int)) : Nat → Int := fun v => R + 1 - (gv ws v).2
abbrev blP (P : List Nat) (R : Int) (ws : List (Nat × Int)) : Nat → Nat → List Int := bl (Wf ws) (Ff R ws) (gv P) P.length
abbrev rowP (P : List Nat) (R : Int) (ws : List (Nat × Int)) : Nat → List Int := row (Wf ws) (Ff R ws) (gv P) P.length
structure OkP (P : List Nat) (R : Int) (ws : List (Nat × Int)) : Prop where
  par : ∀ v, 1 ≤ v → v ≤ P.length → gv P v < v
  few : P.length ≤ 100
  b : OkB P.length R ws
section
variable {P : List Nat} {R : Int} {ws : List (Nat × Int)} (O : OkP P R ws)
include O
theorem OkP.w {v : Nat} (h1 : 1 ≤ v) (h2 : v ≤ P.length) : 1 ≤ (gv ws v).1 ∧ (gv ws v).1 ≤ 999 := by
  have := O.b.all _ (gv_mem (l := ws) h1 (by rw [O.b.len]; exact h2))
  exact ⟨this.1, this.2.1⟩
theorem bl_few {k : Nat} (hk : k ≤ P.length) (u : Nat) : (blP P R ws k u).length ≤ 100000 := by
  have : (blP P R ws k u).length ≤ 999 * k := bl_len (W := Wf ws) (F := Ff R ws) (p := gv P) (n := P.length) (fun v h1 h2 => O.w h1 h2) k hk u
  have := O.few
  omega
omit O in
def mk (n k : Nat) : List Bool := (List.range (n + 1)).map fun u => decide (1 ≤ u ∧ u ≤ k)
omit O in
theorem mk_set {n k : Nat} (h : k < n) : ((mk n k).map PyData.bool).set (k + 1) (.bool true) = (mk n (k + 1)).map PyData.bool := by
  refine List.ext_getElem? fun i => ?_
  rw [set_get]
  unfold mk
  simp only [List.map_map, List.length_map, List.length_range, List.getElem?_map]
  by_cases h1 : i < n + 1
  · rw [List.getElem?_range h1]
    by_cases h2 : k + 1 = i
    · rw [if_pos ⟨h2, h1⟩, ← h2]
      simp
    · rw [if_neg fun z => h2 z.1]
      show some (PyData.bool _) = some (PyData.bool _)
      congr 2
      rw [decide_eq_decide]
      omega
  · have z : (List.range (n + 1))[i]? = none := List.getElem?_eq_none (by rw [List.length_range]; omega)
    rw [z, if_neg fun y => h1 y.2]
    rfl
omit O in
def nlc (P : List Nat) (R : Int) (ws : List (Nat × Int)) (k : Nat) : List (Bool × List PyData) := (List.range (P.length + 1)).map fun u => (decide (P.length - k < u), (blP P R ws k u).map PyData.int)
omit O in
theorem nlc_len {k : Nat} : (nlc P R ws k).length = P.length + 1 := by simp [nlc]
omit O in
theorem nlc_at {k u : Nat} (h : u ≤ P.length) : (nlc P R ws k)[u]? = some (decide (P.length - k < u), (blP P R ws k u).map PyData.int) := by
  unfold nlc
  rw [List.getElem?_map, List.getElem?_range (by omega)]
  rfl
theorem nlc_next {k : Nat} (h : k < P.length) : (((nlc P R ws k).set (P.length - k) (true, (blP P R ws k (P.length - k)).map PyData.int)).set (gv P (P.length - k)) (false, (blP P R ws k (gv P (P.length - k))).map PyData.int ++ (rowP P R ws (P.length - k)).map PyData.int)) = nlc P R ws (k + 1) := by
  have hp := O.par (P.length - k) (by omega) (by omega)
  refine List.ext_getElem? fun u => ?_
  rw [set_get, set_get, List.length_set, nlc_len]
  by_cases h0 : u ≤ P.length
  · rw [nlc_at h0, nlc_at h0]
    have e : row (Wf ws) (Ff R ws) (gv P) P.length (P.length - k) = rwo (Wf ws) (Ff R ws) (P.length - k) (bl (Wf ws) (Ff R ws) (gv P) P.length k (P.length - k)) := by
      unfold row
      rw [show P.length - (P.length - k) = k by omega]
    by_cases h1 : gv P (P.length - k) = u
    · rw [if_pos ⟨h1, by omega⟩]
      congr 2
      · rw [eq_comm, decide_eq_false_iff_not]
        omega
      · show _ = (bl (Wf ws) (Ff R ws) (gv P) P.length (k + 1) u).map PyData.int
        rw [bl_succ, if_pos h1.symm, ← List.map_append, h1, ← e]
    · rw [if_neg fun z => h1 z.1]
      have e2 : bl (Wf ws) (Ff R ws) (gv P) P.length (k + 1) u = bl (Wf ws) (Ff R ws) (gv P) P.length k u := by
        rw [bl_succ, if_neg fun z => h1 z.symm]
      by_cases h2 : P.length - k = u
      · rw [if_pos ⟨h2, by omega⟩]
        congr 2
        · rw [eq_comm, decide_eq_true_iff]
          omega
        · show _ = (bl (Wf ws) (Ff R ws) (gv P) P.length (k + 1) u).map PyData.int
          rw [e2, h2]
      · rw [if_neg fun z => h2 z.1]
        congr 2
        · rw [decide_eq_decide]
          omega
        · show _ = (bl (Wf ws) (Ff R ws) (gv P) P.length (k + 1) u).map PyData.int
          rw [e2]
  · rw [if_neg (by omega), if_neg (by omega), List.getElem?_eq_none (by rw [nlc_len]; omega), List.getElem?_eq_none (by rw [nlc_len]; omega)]
omit O in
abbrev prD (P : List Nat) (R : Int) (ws : List (Nat × Int)) (v : Nat) : PyData := .tuple [nD v, tZ (rowP P R ws v)]
theorem v_walked : F_walked [tN P, bD R ws, .tuple ((List.range P.length).map fun k => nD (k + 1))] = some (.ac ((List.range P.length).map fun k => prD P R ws (P.length - k))) := by
  have few := O.few
  refine w_eq rfl ?_
  refine w_seq (w_set' ?_)
  have rp : (List.replicate (P.length + 1) [PyData.bool false]).flatten = (mk P.length 0).map PyData.bool := by
    refine List.ext_getElem? fun i => ?_
    unfold mk
    rw [show (List.replicate (P.length + 1) [PyData.bool false]).flatten = List.replicate (P.length + 1) (PyData.bool false) by simp]
    rw [List.getElem?_replicate, List.map_map, List.getElem?_map]
    by_cases h : i < P.length + 1
    · rw [if_pos h, List.getElem?_range h]
      show some _ = some (PyData.bool _)
      congr 2
      rw [eq_comm, decide_eq_false_iff_not]
      omega
    · have z : (List.range (P.length + 1))[i]? = none := List.getElem?_eq_none (by rw [List.length_range]; omega)
      rw [if_neg h, z]
      rfl
  have c1 : -9223372036854775808 ≤ (P.length : Int) + 1 := by omega
  have c2 : (P.length : Int) + 1 < 9223372036854775808 := by omega
  have c3 : ((P.length : Int) + 1).toNat = P.length + 1 := by omega
  have c4 : okLen 1 = true := okLen_yes (by omega)
  have c5 : okLen (P.length + 1) = true := okLen_yes (by omega)
  simp [evs2, x_ix, and_assoc, r_x_rep, c1, c2, c3, c4, c5, rp]
  -- the marks
  refine w_seq (w_forN P.length (fun k => nD (k + 1)) (fun k e => ∃ a, e = [im (tN P), im (bD R ws), im (.tuple ((List.range P.length).map fun k => nD (k + 1))), ac ((mk P.length k).map PyData.bool), a, none, none, none, none]) (e1 := [im (tN P), im (bD R ws), im (.tuple ((List.range P.length).map fun k => nD (k + 1))), ac ((mk P.length 0).map PyData.bool), none, none, none, none, none]) (by simp [evs2, x_ix, and_assoc]) ⟨none, rfl⟩ (fun k hk e h => ?_) fun e h => ?_)
  · obtain ⟨a, rfl⟩ := h
    refine ⟨rfl, _, rfl, w_put' ?_⟩
    have c6 : ixN ((mk P.length k).map PyData.bool).length ((k : Int) + 1) = some (k + 1) := ixN_nat (j := k + 1) (by simp [mk]; omega)
    have c7 := mk_set hk
    simp [evs2, x_ix, and_assoc, nD] at c6 c7 ⊢
    simp [evs2, x_ix, and_assoc, c6, c7]
  obtain ⟨a, rfl⟩ := h
  show wS _ _ _
  refine w_seq (w_nw (n := P.length + 1) (l := rngD 0 (P.length + 1) 1) ?_ (by simp [rngD]) rfl (by omega) ?_)
  · have c8 : rgC ((P.length : Int) + 1) = true := decide_eq_true (by omega)
    simp [evs2, x_ix, and_assoc, c8, c3]
  show wS _ _ _
  (first | refine w_seq (w_setF' ?_) | refine w_seq (w_set' ?_) | refine w_seq (w_drop' ?_) | refine w_seq (w_ret' ?_) | refine w_ret' ?_ | refine w_drop' ?_ | refine w_setF' ?_ | refine w_set' ?_) <;> simp [evs2, x_ix, and_assoc, okLen]
  refine w_seq (w_forN P.length (fun k => nD (P.length - k)) (fun k e => ∃ M a r, (∀ d, r ≠ some (.nl d)) ∧ (M = ac ((mk P.length P.length).map PyData.bool) ∨ M = im (.list ((mk P.length P.length).map PyData.bool))) ∧
    e = [im (tN P), im (bD R ws), im (.tuple ((List.range P.length).map fun k => nD (k + 1))), M, a, some (.nl (nlc P R ws k)), ac ((List.range k).map fun k => prD P R ws (P.length - k)), r, none])
    (e1 := [im (tN P), im (bD R ws), im (.tuple ((List.range P.length).map fun k => nD (k + 1))), ac ((mk P.length P.length).map PyData.bool), a, some (.nl (List.replicate (P.length + 1) (false, []))), ac [], none, none]) ?_ ?_ (fun k hk e h => ?_) fun e h => ?_)
  · have c9 := rev_range nD P.length
    simp [evs2, x_ix, and_assoc] at c9 ⊢
    simp [evs2, x_ix, and_assoc, c9]
  · refine ⟨_, a, none, fun d => by simp, .inl rfl, ?_⟩
    have z : List.replicate (P.length + 1) (false, ([] : List PyData)) = nlc P R ws 0 := by
      refine List.ext_getElem? fun i => ?_
      rw [List.getElem?_replicate]
      by_cases h : i < P.length + 1
      · rw [if_pos h, nlc_at (by omega)]
        congr 2
        rw [eq_comm, decide_eq_false_iff_not]
        omega
      · rw [if_neg h, List.getElem?_eq_none (by rw [nlc_len]; omega)]
    rw [z]
    rfl
  · obtain ⟨M, a, r, hr, hM, rfl⟩ := h
    refine ⟨by rcases hM with rfl | rfl <;> rfl, _, rfl, ?_⟩
    obtain ⟨v, hv⟩ : ∃ v, v = P.length - k := ⟨_, rfl⟩
    have v1 : 1 ≤ v := by omega
    have v2 : v ≤ P.length := by omega
    have hk2 : P.length - v = k := by omega
    rw [← hv]
    have hp := O.par v v1 v2
    have at_ := nlc_at (P := P) (R := R) (ws := ws) (k := k) (u := v) v2
    rw [← hv, show decide (v < v) = false from decide_eq_false (by omega)] at at_
    have one5 : ∀ {r : Option Sl} {ds : List PyData} {dss : List (Bool × List PyData)}, (∀ d, r ≠ some (.nl d)) → oneNl 5 [im (tN P), im (bD R ws), im (.tuple ((List.range P.length).map fun k => nD (k + 1))), M, im (nD v), some (.nl dss), ac ds, r, none] = true := fun {r ds dss} hr => by
      have c : isNl (some r) = false := by
        cases r with
        | none => rfl
        | some s =>
          cases s with
          | im d => rfl
          | ac d => rfl
          | nl d => exact absurd rfl (hr d)
      unfold oneNl
      rcases hM with rfl | rfl <;> simp [List.range_succ, isNl] <;> exact c
    have ixv' : ixN (nlc P R ws k).length (v : Int) = some v := ixN_nat (by rw [nlc_len]; omega)
    have hrow : srow (gv ws v).1 (R + 1 - (gv ws v).2) (downI (blP P R ws k v)) = rowP P R ws v := by
      show _ = rwo (Wf ws) (Ff R ws) v (bl (Wf ws) (Ff R ws) (gv P) P.length (P.length - v) v)
      rw [hk2]
      rfl
    have q := v_step_of (R := R) (ws := ws) (v := v) (mem := blP P R ws k v) v1 (by rw [O.b.len]; exact v2) (O.w v1 v2).1 (bl_few O (by omega) v)
    rw [hrow] at q
    refine w_seq (w_nfz ?_)
    show wS _ (fzI 5 (ixF 5 (x_var 4)) [im (tN P), im (bD R ws), im (.tuple ((List.range P.length).map fun k => nD (k + 1))), M, im (nD v), some (.nl (nlc P R ws k)), ac ((List.range k).map fun k => prD P R ws (P.length - k)), r, none]) _
    rw [fzI_at (j := v) (dss := nlc P R ws k) (ds := (blP P R ws k v).map PyData.int) rfl (ixF_at (k := (v : Int)) rfl rfl ixv') at_ (one5 hr) (by rcases hM with rfl | rfl <;> rfl)]
    have hx := x_ixn_at (e := [im (tN P), im (bD R ws), im (.tuple ((List.range P.length).map fun k => nD (k + 1))), M, im (nD v), some (.nl ((nlc P R ws k).set v (true, (blP P R ws k v).map PyData.int))), ac ((List.range k).map fun k => prD P R ws (P.length - k)), r, none]) (i := 5) (fk := x_var 4) (k := (v : Int)) (j := v) (dss := (nlc P R ws k).set v (true, (blP P R ws k v).map PyData.int)) (ds := (blP P R ws k v).map PyData.int) rfl rfl (by rw [List.length_set]; exact ixv') (by rw [set_get, if_pos ⟨rfl, by rw [nlc_len]; omega⟩])
    refine w_setF' ⟨(.im (tZ (rowP P R ws v)), [im (tN P), im (bD R ws), im (.tuple ((List.range P.length).map fun k => nD (k + 1))), M, im (nD v), some (.nl ((nlc P R ws k).set v (true, (blP P R ws k v).map PyData.int))), ac ((List.range k).map fun k => prD P R ws (P.length - k)), r, none]), ?_, by rcases hM with rfl | rfl <;> rfl, ?_⟩
    · refine callI (aI (vI rfl) (aI (vI rfl) (aI hx a0))) rfl q
    show wS _ [im (tN P), im (bD R ws), im (.tuple ((List.range P.length).map fun k => nD (k + 1))), M, im (nD v), some (.nl ((nlc P R ws k).set v (true, (blP P R ws k v).map PyData.int))), ac ((List.range k).map fun k => prD P R ws (P.length - k)), im (tZ (rowP P R ws v)), none] _
    have c10 : okLen (k + 1) = true := okLen_yes (by omega)
    have c11 : okLen 2 = true := okLen_yes (by omega)
    (first | refine w_seq (w_setF' ?_) | refine w_seq (w_set' ?_) | refine w_seq (w_drop' ?_) | refine w_seq (w_ret' ?_) | refine w_ret' ?_ | refine w_drop' ?_ | refine w_setF' ?_ | refine w_set' ?_) <;> simp [evs2, x_ix, and_assoc, c10, c11]
    refine w_seq (w_fz ?_)
    have fz : fzE 3 [im (tN P), im (bD R ws), im (.tuple ((List.range P.length).map fun k => nD (k + 1))), M, im (nD v), some (.nl ((nlc P R ws k).set v (true, (blP P R ws k v).map PyData.int))), ac ((List.range k).map (fun k => prD P R ws (P.length - k)) ++ [prD P R ws v]), im (tZ (rowP P R ws v)), none] =
        [im (tN P), im (bD R ws), im (.tuple ((List.range P.length).map fun k => nD (k + 1))), im (.list ((mk P.length P.length).map PyData.bool)), im (nD v), some (.nl ((nlc P R ws k).set v (true, (blP P R ws k v).map PyData.int))), ac ((List.range k).map (fun k => prD P R ws (P.length - k)) ++ [prD P R ws v]), im (tZ (rowP P R ws v)), none] := by
      rcases hM with rfl | rfl <;> rfl
    refine Eq.mpr (congrArg (fun e => wS _ e _) fz) ?_
    have mkP : gv P v = 0 ∨ (gv P v < (mk P.length P.length).length ∧ gv (mk P.length P.length) (gv P v + 1) = true) := by
      by_cases z : gv P v = 0
      · exact .inl z
      · right
        have l : (mk P.length P.length).length = P.length + 1 := by simp [mk]
        refine ⟨by omega, ?_⟩
        have g := gv_get (l := mk P.length P.length) (k := gv P v) (by omega)
        unfold mk at g
        rw [List.getElem?_map, List.getElem?_range (by omega)] at g
        have g2 := Option.some.inj g
        unfold mk
        rw [← g2]
        simp
        omega
    have qn := v_near (P := P) (ms := mk P.length P.length) (v := v) v1 v2 mkP
    have lp := bl_few O (k := k) (by omega) (gv P v)
    have lr : (rowP P R ws v).length ≤ 999 := by
      have a1 := rwo_len (W := Wf ws) (F := Ff R ws) (v := v) (O.w v1 v2).1 (bl (Wf ws) (Ff R ws) (gv P) P.length (P.length - v) v)
      have a2 := (O.w v1 v2).2
      exact Nat.le_trans a1 a2
    have atp := nlc_at (P := P) (R := R) (ws := ws) (k := k) (u := gv P v) (by omega)
    rw [show decide (P.length - k < gv P v) = false from decide_eq_false (by omega)] at atp
    refine (w_nex (k := ((gv P v : Nat) : Int)) (j := gv P v) (dss := (nlc P R ws k).set v (true, (blP P R ws k v).map PyData.int)) (d := tZ (rowP P R ws v)) (es := (rowP P R ws v).map PyData.int) (ds := (blP P R ws k (gv P v)).map PyData.int) ?_ ?_ (by rw [List.length_set]; exact ixN_nat (by rw [nlc_len]; omega)) ?_ rfl ?_ ?_ ?_ (by rw [List.length_map, List.length_map]; omega) ?_)
    · rfl
    · exact callI (aI (vI rfl) (aI (vI rfl) (aI (vI rfl) a0))) rfl qn
    · rfl
    · rw [List.getElem?_set_ne (by omega)]
      exact atp
    · unfold oneNl
      simp [List.range_succ, isNl]
    · rfl
    · have nx := nlc_next O hk
      rw [← hv] at nx
      show wS s_nx _ _
      refine w_nx ⟨im (.list ((mk P.length P.length).map PyData.bool)), im (nD v), im (tZ (rowP P R ws v)), fun d => by simp, .inr rfl, ?_⟩
      have e1 : (List.range (k + 1)).map (fun k => prD P R ws (P.length - k)) = (List.range k).map (fun k => prD P R ws (P.length - k)) ++ [prD P R ws v] := by
        rw [List.range_succ, List.map_append, List.map_cons, List.map_nil, ← hv]
      rw [e1, ← nx]
      rfl
  · obtain ⟨M, a, r, hr, hM, rfl⟩ := h
    (first | refine w_seq (w_setF' ?_) | refine w_seq (w_set' ?_) | refine w_seq (w_drop' ?_) | refine w_seq (w_ret' ?_) | refine w_ret' ?_ | refine w_drop' ?_ | refine w_setF' ?_ | refine w_set' ?_) <;> simp [evs2, x_ix, and_assoc]
end
end K15
namespace K15
open PySem PySem.Spec PyProof.Rows L2 DL
/-! ### bounds, rows, heights, top -/
section
variable {P : List Nat} {R : Int} {ws : List (Nat × Int)}
theorem v_bound_fault (h : OkB P.length R ws) : F_bound_fault [tN P, bD R ws] = some (.im .none) := by
  obtain ⟨r1, r2, hl, ha⟩ := h
  refine w_eq rfl ?_
  (first | refine w_seq (w_if' ?_) | refine w_if' ?_) <;> simp [evs2, x_ix, and_assoc, v_is_pair]
  refine w_seq (w_asg' ?_)
  simp [evs2, x_ix, and_assoc]
  (first | refine w_seq (w_if' ?_) | refine w_if' ?_) <;> simp [evs2, x_ix, and_assoc, v_up_to, r1, r2]
  (first | refine w_seq (w_if' ?_) | refine w_if' ?_) <;> simp [evs2, x_ix, and_assoc, hl]
  refine w_seq (w_forN ws.length (fun k => PyData.tuple [nD k, pD (gv ws (k + 1))]) (fun k e => ∃ a b, e = [im (tN P), im (bD R ws), im (.int R), im (.tuple (ws.map pD)), a, b]) (e1 := [im (tN P), im (bD R ws), im (.int R), im (.tuple (ws.map pD)), none, none]) ?_ ⟨none, none, rfl⟩ (fun k hk e h => ?_) fun e h => ?_)
  · simp [evs2, x_ix, and_assoc, enum_map pD ws]
  · obtain ⟨a, b, rfl⟩ := h
    obtain ⟨a1, a2, a3, a4⟩ := ha _ (gv_mem (l := ws) (v := k + 1) (by omega) (by omega))
    refine ⟨rfl, _, rfl, ?_⟩
    have b1 : (1 : Int) ≤ ((gv ws (k + 1)).1 : Nat) := by omega
    have b2 : (((gv ws (k + 1)).1 : Nat) : Int) ≤ 999 := by omega
    have x0 : p_ix (pD (gv ws (k + 1))) (.int 0) = some (.im (nD (gv ws (k + 1)).1)) := rfl
    have x1 : p_ix (pD (gv ws (k + 1))) (.int 1) = some (.im (.int (gv ws (k + 1)).2)) := rfl
    show wS _ [im (tN P), im (bD R ws), im (.int R), im (.tuple (ws.map pD)), im (nD k), im (pD (gv ws (k + 1)))] _
    (first | refine w_seq (w_if' ?_) | refine w_if' ?_) <;> simp [evs2, x_ix, and_assoc, v_is_pair]
    (first | refine w_seq (w_if' ?_) | refine w_if' ?_) <;> simp [evs2, x_ix, and_assoc, x0, v_up_to, nD, b1, b2]
    (first | refine w_seq (w_if' ?_) | refine w_if' ?_) <;> simp [evs2, x_ix, and_assoc, x1, v_up_to, a3, a4]
  · obtain ⟨a, b, rfl⟩ := h
    (first | refine w_seq (w_setF' ?_) | refine w_seq (w_set' ?_) | refine w_seq (w_drop' ?_) | refine w_seq (w_ret' ?_) | refine w_ret' ?_ | refine w_drop' ?_ | refine w_setF' ?_ | refine w_set' ?_) <;> simp [evs2, x_ix, and_assoc]
theorem v_need_bounds (h : OkB P.length R ws) : F_need_bounds [tN P, bD R ws] = some (.im .none) := by
  refine w_eq rfl ?_
  exact w_ifF (e1 := [im (tN P), im (bD R ws)]) (bang (binI (callI (aI (vI rfl) (aI (vI rfl) a0)) rfl (v_bound_fault h)) cI e_isnotnone)) (w_nx rfl)
variable (O : OkP P R ws)
include O
theorem v_rows_of : F_rows_of [tN P, bD R ws] = some (.im (.tuple ((List.range P.length).map fun k => tZ (rowP P R ws (k + 1))))) := by
  have few := O.few
  have qa := v_all (P := P.map nD) (by rw [List.length_map]; omega)
  rw [List.length_map] at qa
  refine w_eq rfl ?_
  refine w_seq (w_drop (r := .im .none) (e1 := [im (tN P), im (bD R ws), none, none, none]) (callI (aI (vI rfl) (aI (vI rfl) a0)) rfl (v_need_bounds O.b)) ?_)
  refine w_seq (w_setL (ds := (List.range P.length).map fun k => prD P R ws (P.length - k)) (e1 := [im (tN P), im (bD R ws), none, none, none]) (callA (aI (vI rfl) (aI (vI rfl) (aI (callI (aI (vI rfl) a0) rfl qa) a0))) rfl (v_walked O)) rfl ?_)
  show wS _ [im (tN P), im (bD R ws), im (.list ((List.range P.length).map fun k => prD P R ws (P.length - k))), none, none] _
  (first | refine w_seq (w_setF' ?_) | refine w_seq (w_set' ?_) | refine w_seq (w_drop' ?_) | refine w_seq (w_ret' ?_) | refine w_ret' ?_ | refine w_drop' ?_ | refine w_setF' ?_ | refine w_set' ?_) <;> simp [evs2, x_ix, and_assoc]
  rw [lcA (List.range P.length) (fun k => prD P R ws (k + 1)) (fun k => tZ (rowP P R ws (k + 1)))]
  · simp [evs2, x_ix, and_assoc]
  · have z := rev_range (fun v => prD P R ws v) P.length
    have z2 : ((List.range P.length).map fun k => prD P R ws (P.length - k)).reverse = (List.range P.length).map fun k => prD P R ws (k + 1) := by
      rw [← z, List.reverse_reverse]
    simp [evs2, x_ix, and_assoc, z2]
  · rfl
  · rw [List.length_range]
    omega
  · intro k _
    simp [evs2, x_ix, and_assoc, wipeE]
omit O in
theorem row_last (v : Nat) : ∃ l, rowP P R ws v = l ++ [sh (Wf ws v) (Ff R ws v) (downI (blP P R ws (P.length - v) v))] := ⟨_, rfl⟩
omit O in
def hgt (P : List Nat) (R : Int) (ws : List (Nat × Int)) (v : Nat) : Int := sh (Wf ws v) (Ff R ws v) (downI (blP P R ws (P.length - v) v))
omit O in
theorem ix_last {l : List Int} {a : Int} : p_ix (tZ (l ++ [a])) (.int (-1)) = some (.im (.int a)) := by
  show (atI ((l ++ [a]).map PyData.int) (-1)).map Rs.im = _
  unfold atI ixN
  rw [if_neg (by decide), if_pos (by simp; omega)]
  simp only [List.length_map, List.length_append, List.length_cons, List.length_nil, Option.bind_some, List.map_append, List.map_cons, List.map_nil]
  rw [show ((-1 : Int) + ((l.length + (0 + 1) : Nat) : Int)).toNat = l.length by omega, List.getElem?_append_right (by simp)]
  simp
theorem v_walk_heights : F_walk_heights [tN P, bD R ws] = some (.im (tZ ((List.range P.length).map fun k => hgt P R ws (k + 1)))) := by
  have few := O.few
  refine w_eq rfl ?_
  (first | refine w_seq (w_setF' ?_) | refine w_seq (w_set' ?_) | refine w_seq (w_drop' ?_) | refine w_seq (w_ret' ?_) | refine w_ret' ?_ | refine w_drop' ?_ | refine w_setF' ?_ | refine w_set' ?_) <;> simp [evs2, x_ix, and_assoc, v_rows_of O]
  rw [lcA (List.range P.length) (fun k => tZ (rowP P R ws (k + 1))) (fun k => .int (hgt P R ws (k + 1)))]
  · obtain ⟨ns, hns⟩ : ∃ ns, ns = (List.range P.length).map fun k => hgt P R ws (k + 1) := ⟨_, rfl⟩
    have z : (List.range P.length).map (fun k => PyData.int (hgt P R ws (k + 1))) = ns.map PyData.int := by rw [hns, List.map_map]; rfl
    rw [z, ← hns]
    simp [evs2, x_ix, and_assoc]
  · simp [evs2, x_ix, and_assoc, v_rows_of O]
  · rfl
  · rw [List.length_range]
    omega
  · intro k _
    obtain ⟨l, hl⟩ := row_last (P := P) (R := R) (ws := ws) (k + 1)
    have q : p_ix (tZ (rowP P R ws (k + 1))) (.int (-1)) = some (.im (.int (hgt P R ws (k + 1)))) := by
      rw [hl]
      exact ix_last
    simp [evs2, x_ix, and_assoc, wipeE, q]
omit O in
/-- the first member -/
def hd (l : List Int) : Int := l.headD 0
omit O in
theorem ix_hd {l : List Int} (h : l ≠ []) : p_ix (tZ l) (.int 0) = some (.im (.int (hd l))) := by
  cases l with
  | nil => exact absurd rfl h
  | cons a l => exact ixz (f := PyData.int) (l := a :: l) (i := 0) (by omega) (by simp)
omit O in
theorem row_ne (v : Nat) : rowP P R ws v ≠ [] := by
  obtain ⟨l, hl⟩ := row_last (P := P) (R := R) (ws := ws) v
  rw [hl]
  simp
omit O in
def topR (P : List Nat) (R : Int) (ws : List (Nat × Int)) : Int := maxO 0 ((List.range P.length).map fun k => hd (rowP P R ws (k + 1)))
theorem v_top_of : F_top_of [tN P, bD R ws] = some (.im (.int (topR P R ws))) := by
  have few := O.few
  refine w_eq rfl ?_
  (first | refine w_seq (w_setF' ?_) | refine w_seq (w_set' ?_) | refine w_seq (w_drop' ?_) | refine w_seq (w_ret' ?_) | refine w_ret' ?_ | refine w_drop' ?_ | refine w_setF' ?_ | refine w_set' ?_) <;> simp [evs2, x_ix, and_assoc, v_rows_of O]
  rw [lcA (List.range P.length) (fun k => tZ (rowP P R ws (k + 1))) (fun k => .int (hd (rowP P R ws (k + 1))))]
  · obtain ⟨ns, hns⟩ : ∃ ns, ns = (List.range P.length).map fun k => hd (rowP P R ws (k + 1)) := ⟨_, rfl⟩
    have z : ((List.range P.length).map fun k => PyData.int (hd (rowP P R ws (k + 1)))) = ns.map PyData.int := by rw [hns, List.map_map]; rfl
    have z2 : topR P R ws = maxO 0 ns := by rw [hns]; rfl
    rw [z, z2]
    simp [evs2, x_ix, and_assoc]
  · simp [evs2, x_ix, and_assoc, v_rows_of O]
  · rfl
  · rw [List.length_range]
    omega
  · intro k _
    have q := ix_hd (row_ne (P := P) (R := R) (ws := ws) (k + 1))
    simp [evs2, x_ix, and_assoc, wipeE, q]
omit O in
def goesB (P : List Nat) (R : Int) (ws : List (Nat × Int)) : Bool := ((List.range P.length).map fun k => decide (R < hd (rowP P R ws (P.length - k)))).any id
theorem v_goes : F_goes_above [tN P, bD R ws, .tuple ((List.range P.length).map fun k => nD (k + 1))] = some (.im (.bool (goesB P R ws))) := by
  have few := O.few
  have lc : x_lc (i_seq (x_call F_walked [] (a_cons (x_var 0) (a_cons (x_var 1) (a_cons (x_var 2) a_nil))))) (g_name 3) t_yes (x_bin q_gt (x_ix (x_ix (x_var 3) (x_c (.int 1))) (x_c (.int 0))) (x_ix (x_var 1) (x_c (.int 0)))) [3] [im (tN P), im (bD R ws), im (.tuple ((List.range P.length).map fun k => nD (k + 1))), none] = some (.ac ((List.range P.length).map fun k => .bool (decide (R < hd (rowP P R ws (P.length - k))))), [im (tN P), im (bD R ws), im (.tuple ((List.range P.length).map fun k => nD (k + 1))), none]) := by
    refine lcA (List.range P.length) (fun k => prD P R ws (P.length - k)) (fun k => .bool (decide (R < hd (rowP P R ws (P.length - k))))) (iseqA (callA (aI (vI rfl) (aI (vI rfl) (aI (vI rfl) a0))) rfl (v_walked O))) rfl (by rw [List.length_range]; omega) fun k _ => ?_
    have q := ix_hd (row_ne (P := P) (R := R) (ws := ws) (P.length - k))
    have x1 : p_ix (prD P R ws (P.length - k)) (.int 1) = some (.im (tZ (rowP P R ws (P.length - k)))) := rfl
    have x2 : p_ix (bD R ws) (.int 0) = some (.im (.int R)) := rfl
    simp [evs2, x_ix, and_assoc, wipeE, q, x1, x2]
  have z : ((List.range P.length).map fun k => PyData.bool (decide (R < hd (rowP P R ws (P.length - k))))) = ((List.range P.length).map fun k => decide (R < hd (rowP P R ws (P.length - k)))).map PyData.bool := by rw [List.map_map]; rfl
  rw [z] at lc
  exact w_eq rfl (w_ret (cbE lc) ⟨_, rfl, rfl⟩)
theorem v_can_keep : F_can_keep [tN P, bD R ws] = some (.im (.bool (!goesB P R ws))) := by
  have few := O.few
  have qa := v_all (P := P.map nD) (by rw [List.length_map]; omega)
  rw [List.length_map] at qa
  refine w_eq rfl ?_
  refine w_seq (w_drop (r := .im .none) (e1 := [im (tN P), im (bD R ws)]) (callI (aI (vI rfl) (aI (vI rfl) a0)) rfl (v_need_bounds O.b)) ?_)
  have q : x_call F_goes_above [] (a_cons (x_var 0) (a_cons (x_var 1) (a_cons (x_call F_all_versions [] (a_cons (x_var 0) a_nil)) a_nil))) [im (tN P), im (bD R ws)] = some (.im (.bool (goesB P R ws)), [im (tN P), im (bD R ws)]) := callI (aI (vI rfl) (aI (vI rfl) (aI (callI (aI (vI rfl) a0) rfl qa) a0))) rfl (v_goes O)
  show wS _ [im (tN P), im (bD R ws)] _
  refine w_seq (w_ret (r := .im (.bool (!goesB P R ws))) (e1 := [im (tN P), im (bD R ws)]) ?_ ⟨_, rfl, rfl⟩)
  rw [r_x_not, q]
end
end K15
namespace K15
open PySem PySem.Spec PyProof.Rows L2 DL
/-! ### the sequence of rows -/
def lx : List Int → List Int → Prop
  | [], _ => True
  | _ :: _, [] => False
  | x :: xs, y :: ys => x < y ∨ (x = y ∧ lx xs ys)
theorem lx_refl : ∀ l, lx l l
  | [] => True.intro
  | _ :: l => .inr ⟨rfl, lx_refl l⟩
theorem lx_trans : ∀ {a b c : List Int}, lx a b → lx b c → lx a c
  | [], _, _, _, _ => True.intro
  | _ :: _, [], _, h, _ => h.elim
  | _ :: _, _ :: _, [], _, h => h.elim
  | x :: a, y :: b, z :: c, h1, h2 => by
    rcases h1 with h1 | ⟨h1, k1⟩
    · rcases h2 with h2 | ⟨h2, k2⟩
      · left; omega
      · left; omega
    · rcases h2 with h2 | ⟨h2, k2⟩
      · left; omega
      · right; exact ⟨h1.trans h2, lx_trans k1 k2⟩
theorem lx_antisymm : ∀ {a b : List Int}, lx a b → lx b a → a = b
  | [], [], _, _ => rfl
  | [], _ :: _, _, h => h.elim
  | _ :: _, [], h, _ => h.elim
  | x :: a, y :: b, h1, h2 => by
    rcases h1 with h1 | ⟨h1, k1⟩
    · rcases h2 with h2 | ⟨h2, k2⟩ <;> omega
    · rcases h2 with h2 | ⟨h2, k2⟩
      · omega
      · rw [h1, lx_antisymm k1 k2]
def ins (x : Int) : List Int → List Int
  | [] => [x]
  | y :: ys => if y ≤ x then x :: y :: ys else y :: ins x ys
theorem ins_perm (x : Int) : ∀ l, (ins x l).Perm (x :: l)
  | [] => List.Perm.refl _
  | y :: ys => by
    unfold ins
    split
    · exact List.Perm.refl _
    · exact ((ins_perm x ys).cons y).trans (List.Perm.swap x y ys)
theorem ins_down (x : Int) : ∀ {l}, Down l → Down (ins x l)
  | [], _ => by simp [ins, Down]
  | y :: ys, d => by
    have d2 := List.pairwise_cons.mp d
    unfold ins
    split
    · rename_i h
      refine List.pairwise_cons.mpr ⟨fun z hz => ?_, d⟩
      rcases List.mem_cons.mp hz with e | e
      · rw [e]; exact h
      · have := d2.1 z e
        show z ≤ x
        have : z ≤ y := this
        omega
    · rename_i h
      refine List.pairwise_cons.mpr ⟨fun z hz => ?_, ins_down x d2.2⟩
      have := (ins_perm x ys).mem_iff.mp hz
      rcases List.mem_cons.mp this with e | e
      · rw [e]; show x ≤ y; omega
      · exact d2.1 z e
theorem downI_cons (x : Int) (l : List Int) : downI (x :: l) = ins x (downI l) :=
  (downI_uniq ((ins_perm x (downI l)).trans ((downI_perm l).cons x)) (ins_down x (down_downI l))).symm
theorem lx_ins (x : Int) : ∀ {a b : List Int}, lx a b → lx (ins x a) (ins x b)
  | [], [], _ => lx_refl _
  | [], y :: ys, _ => by
    show lx [x] (ins x (y :: ys))
    unfold ins
    split
    · exact .inr ⟨rfl, True.intro⟩
    · left; omega
  | _ :: _, [], h => h.elim
  | u :: us, y :: ys, h => by
    unfold ins
    rcases h with h | ⟨h, k⟩
    · split
      · split
        · exact .inr ⟨rfl, .inl h⟩
        · left; omega
      · split
        · left; omega
        · exact .inl h
    · subst h
      split
      · exact .inr ⟨rfl, .inr ⟨rfl, k⟩⟩
      · exact .inr ⟨rfl, lx_ins x k⟩
theorem lx_app : ∀ (c : List Int) {a b : List Int}, lx (downI a) (downI b) → lx (downI (c ++ a)) (downI (c ++ b))
  | [], _, _, h => h
  | x :: c, a, b, h => by
    rw [List.cons_append, List.cons_append, downI_cons, downI_cons]
    exact lx_ins x (lx_app c h)
theorem lx_flat {α : Type} {f g : α → List Int} : ∀ {l : List α}, (∀ x ∈ l, lx (downI (f x)) (downI (g x))) → lx (downI (l.flatMap f)) (downI (l.flatMap g))
  | [], _ => lx_refl _
  | x :: l, h => by
    rw [List.flatMap_cons, List.flatMap_cons]
    refine lx_trans (lx_app (f x) (lx_flat fun y m => h y (List.mem_cons_of_mem _ m))) ?_
    rw [downI_congr (List.perm_append_comm (l₁ := f x) (l₂ := l.flatMap g)), downI_congr (List.perm_append_comm (l₁ := g x) (l₂ := l.flatMap g))]
    exact lx_app _ (h x List.mem_cons_self)
/-! ### a step below any height that is let -/
def cnt (l : List Int) (s : Int) : Nat := (l.filter fun m => decide (s ≤ m)).length
theorem cnt_zero {l : List Int} {s : Int} (h : ∀ m ∈ l, m < s) : cnt l s = 0 := by
  unfold cnt
  rw [List.filter_eq_nil_iff.mpr fun m hm => by have := h m hm; simpa using this]
  rfl
theorem cnt_cons {a s : Int} {l : List Int} (h : s ≤ a) : cnt (a :: l) s = cnt l s + 1 := by
  unfold cnt
  rw [List.filter_cons_of_pos (by simpa using h)]
  rfl
theorem cnt_skip {a s : Int} {l : List Int} (h : a < s) : cnt (a :: l) s = cnt l s := by
  unfold cnt
  rw [List.filter_cons_of_neg (by simp; omega)]
theorem cnt_mono {s t : Int} (h : s ≤ t) : ∀ l : List Int, cnt l t ≤ cnt l s
  | [] => Nat.le_refl _
  | a :: l => by
    have ih := cnt_mono h l
    by_cases h1 : t ≤ a
    · rw [cnt_cons h1, cnt_cons (by omega)]
      omega
    · rw [cnt_skip (by omega)]
      by_cases h2 : s ≤ a
      · rw [cnt_cons h2]; omega
      · rw [cnt_skip (by omega)]; exact ih
theorem cnt_top {s : Int} : ∀ {a b : List Int}, lx a b → (∀ m ∈ b, m ≤ s) → (∀ m ∈ a, m ≤ s) → Down a → cnt a s ≤ cnt b s
  | [], _, _, _, _, _ => Nat.zero_le _
  | _ :: _, [], h, _, _, _ => h.elim
  | x :: a, y :: b, h, hb, ha, d => by
    have d2 := List.pairwise_cons.mp d
    have hy := hb y List.mem_cons_self
    rcases h with h | ⟨h, k⟩
    · rw [cnt_zero (l := x :: a) fun m hm => by
        rcases List.mem_cons.mp hm with e | e
        · omega
        · have : m ≤ x := d2.1 m e
          omega]
      exact Nat.zero_le _
    · subst h
      have ih := cnt_top k (fun m z => hb m (List.mem_cons_of_mem _ z)) (fun m z => ha m (List.mem_cons_of_mem _ z)) d2.2
      by_cases z : s ≤ x
      · rw [cnt_cons z, cnt_cons z]; omega
      · rw [cnt_skip (by omega), cnt_skip (by omega)]; exact ih
theorem filter_none {l : List Int} {s : Int} (h : ∀ m ∈ l, m < s) : (l.filter fun m => decide (s ≤ m)) = [] := List.filter_eq_nil_iff.mpr fun m hm => by have := h m hm; simpa using this
theorem below_of {a s : Int} {l : List Int} (d : Down (a :: l)) (h : a < s) : ∀ m ∈ a :: l, m < s := fun m hm => by
  rcases List.mem_cons.mp hm with e | e
  · omega
  · have : m ≤ a := (List.pairwise_cons.mp d).1 m e
    omega
/-- the tall one t of M and the tall one h of M', which is as low as can be -/
theorem lx_tall {h t : Int} : ∀ {A B : List Int}, Down A → Down B → lx A B → (∀ s, t ≤ s → cnt A s ≤ cnt B t → h ≤ s) → lx ((A.filter fun m => decide (h ≤ m)) ++ [h]) ((B.filter fun m => decide (t ≤ m)) ++ [t])
  | [], B, _, dB, _, H => by
    rw [List.filter_nil, List.nil_append]
    cases B with
    | nil =>
      have := H t (Int.le_refl _) (Nat.zero_le _)
      rw [List.filter_nil, List.nil_append]
      by_cases z : h = t
      · exact .inr ⟨z, True.intro⟩
      · left; omega
    | cons b B =>
      by_cases z : t ≤ b
      · have := H b z (Nat.zero_le _)
        rw [List.filter_cons_of_pos (by simpa using z), List.cons_append]
        by_cases y : h = b
        · exact .inr ⟨y, True.intro⟩
        · left; omega
      · have := H t (Int.le_refl _) (Nat.zero_le _)
        rw [filter_none (below_of dB (by omega)), List.nil_append]
        by_cases y : h = t
        · exact .inr ⟨y, True.intro⟩
        · left; omega
  | _ :: _, [], _, _, k, _ => k.elim
  | a :: A, b :: B, dA, dB, k, H => by
    have dA2 := List.pairwise_cons.mp dA
    have dB2 := List.pairwise_cons.mp dB
    -- all of A below some bound: the left side starts with less, or is h alone
    have low : ∀ {s : Int} {T : List Int}, a < s → h ≤ s → lx (((a :: A).filter fun m => decide (h ≤ m)) ++ [h]) (s :: T) := fun {s T} h1 h2 => by
      by_cases z : h ≤ a
      · rw [List.filter_cons_of_pos (by simpa using z), List.cons_append]
        left; exact h1
      · rw [filter_none (below_of dA (by omega)), List.nil_append]
        by_cases y : h = s
        · exact .inr ⟨y, True.intro⟩
        · left; omega
    rcases k with k | ⟨k, k2⟩
    · by_cases z : t ≤ b
      · have hb := H b z (by rw [cnt_zero (below_of dA k)]; exact Nat.zero_le _)
        rw [List.filter_cons_of_pos (p := fun m => decide (t ≤ m)) (by simpa using z), List.cons_append]
        exact low k hb
      · have ht := H t (Int.le_refl _) (by rw [cnt_zero (below_of dA (by omega))]; exact Nat.zero_le _)
        rw [filter_none (s := t) (below_of dB (by omega)), List.nil_append]
        exact low (by omega) ht
    · subst k
      by_cases z : t ≤ a
      · have c1 : cnt (a :: A) a ≤ cnt (a :: B) t := by
          refine Nat.le_trans (cnt_top (s := a) (a := a :: A) (b := a :: B) (Or.inr ⟨rfl, k2⟩) (fun m hm => ?_) (fun m hm => ?_) dA) (cnt_mono z _)
          · rcases List.mem_cons.mp hm with e | e
            · omega
            · exact dB2.1 m e
          · rcases List.mem_cons.mp hm with e | e
            · omega
            · exact dA2.1 m e
        have ha := H a z c1
        rw [List.filter_cons_of_pos (p := fun m => decide (t ≤ m)) (by simpa using z), List.filter_cons_of_pos (p := fun m => decide (h ≤ m)) (by simpa using ha), List.cons_append, List.cons_append]
        refine .inr ⟨rfl, lx_tall dA2.2 dB2.2 k2 fun s h1 h2 => ?_⟩
        by_cases y : s ≤ a
        · exact H s h1 (by rw [cnt_cons y, cnt_cons z]; omega)
        · omega
      · have ht := H t (Int.le_refl _) (by rw [cnt_zero (below_of dA (by omega))]; exact Nat.zero_le _)
        rw [filter_none (s := t) (below_of dB (by omega)), List.nil_append]
        exact low (by omega) ht
theorem cnt_ge {s : Int} : ∀ {l : List Int} {k : Nat} {x : Int}, Down l → l[k]? = some x → s ≤ x → k + 1 ≤ cnt l s
  | [], k, x, _, h, _ => by simp at h
  | a :: l, 0, x, _, h, hs => by
    have e : a = x := by simpa using h
    rw [cnt_cons (by omega)]
    omega
  | a :: l, k + 1, x, d, h, hs => by
    have d2 := List.pairwise_cons.mp d
    have h2 : l[k]? = some x := by simpa using h
    have ih := cnt_ge d2.2 h2 hs
    have : x ≤ a := d2.1 x (List.mem_of_getElem? h2)
    rw [cnt_cons (by omega)]
    omega
theorem sh_least {w : Nat} {f s : Int} {M : List Int} (hw : 1 ≤ w) (d : Down M) (hf : f ≤ s) (hc : cnt M s + 1 ≤ w) : sh w f M ≤ s := by
  unfold sh
  split
  · rename_i h
    by_cases z : s ≤ gv M w
    · have := cnt_ge d (gv_of hw h.1) z
      omega
    · omega
  · exact hf
theorem lx_step {w : Nat} {f t : Int} {A B : List Int} (hw : 1 ≤ w) (dA : Down A) (dB : Down B) (k : lx A B) (hf : f ≤ t) (hc : cnt B t + 1 ≤ w) : lx (srow w f A) ((B.filter fun m => decide (t ≤ m)) ++ [t]) :=
  lx_tall dA dB k fun s h1 h2 => sh_least hw dA (by omega) (by omega)
theorem sh_ge {w : Nat} {f : Int} {M : List Int} : f ≤ sh w f M := by
  unfold sh
  split
  · omega
  · exact Int.le_refl _
end K15
namespace K15
open PySem PySem.Spec PyProof.Rows L2 DL
theorem fl_congr {α β : Type} {f g : α → List β} : ∀ {l : List α}, (∀ x ∈ l, f x = g x) → l.flatMap f = l.flatMap g
  | [], _ => rfl
  | a :: l, h => by
    rw [List.flatMap_cons, List.flatMap_cons, h a List.mem_cons_self, fl_congr fun x m => h x (List.mem_cons_of_mem _ m)]
theorem fl_perm {α β : Type} {f g : α → List β} : ∀ {l : List α}, (∀ x ∈ l, (f x).Perm (g x)) → (l.flatMap f).Perm (l.flatMap g)
  | [], _ => List.Perm.refl _
  | a :: l, h => by
    rw [List.flatMap_cons, List.flatMap_cons]
    exact (h a List.mem_cons_self).append (fl_perm fun x m => h x (List.mem_cons_of_mem _ m))
theorem nodup_flat {α β : Type} {f : α → List β} : ∀ {l : List α}, (∀ c ∈ l, (f c).Nodup) → l.Pairwise (fun c d => ∀ z ∈ f c, z ∉ f d) → (l.flatMap f).Nodup
  | [], _, _ => List.Pairwise.nil
  | a :: l, h, k => by
    rw [List.flatMap_cons, List.nodup_append]
    have k2 := List.pairwise_cons.mp k
    refine ⟨h a List.mem_cons_self, nodup_flat (fun c m => h c (List.mem_cons_of_mem _ m)) k2.2, fun x hx y hy e => ?_⟩
    obtain ⟨d, d1, d2⟩ := List.mem_flatMap.mp hy
    exact k2.1 d d1 x hx (by rw [e]; exact d2)
/-! ### where a version is open -/
abbrev Par (p : Nat → Nat) (n : Nat) : Prop := ∀ v, 1 ≤ v → v ≤ n → p v < v
section
variable (p : Nat → Nat) (h : Nat → Int)
/-- from u up to v nobody is higher than t -/
def opB (v : Nat) (t : Int) : Nat → Nat → Bool
  | 0, u => u == v
  | k + 1, u => u == v || (decide (v < u) && (decide (h (p u) ≤ t) && opB v t k (p u)))
def op (v : Nat) (t : Int) (u : Nat) : Bool := opB p h v t u u
def opL (n v : Nat) : List Nat := ((List.range (n + 1)).filter fun z => decide (v ≤ z) && op p h v (h z) z)
def openRow (n v : Nat) : List Int := downI ((opL p h n v).map h)
end
section
variable {p : Nat → Nat} {h : Nat → Int} {n : Nat} (hp : Par p n)
include hp
theorem opB_more {v : Nat} {t : Int} : ∀ (u k : Nat), u ≤ n → u ≤ k → opB p h v t k u = opB p h v t u u := by
  intro u
  induction u using Nat.strongRecOn with
  | ind u ih =>
    intro k hu hk
    by_cases z : u = 0
    · subst z
      cases k with
      | zero => rfl
      | succ k =>
        show ((0 == v) || (decide (v < 0) && _)) = (0 == v)
        simp
    · obtain ⟨k, rfl⟩ : ∃ j, k = j + 1 := ⟨k - 1, by omega⟩
      obtain ⟨u, rfl⟩ : ∃ j, u = j + 1 := ⟨u - 1, by omega⟩
      have l := hp (u + 1) (by omega) hu
      show (_ || (_ && (_ && opB p h v t k (p (u + 1))))) = (_ || (_ && (_ && opB p h v t u (p (u + 1)))))
      rw [ih (p (u + 1)) l k (by omega) (by omega), ih (p (u + 1)) l u (by omega) (by omega)]
theorem op_eq {v u : Nat} {t : Int} (h1 : 1 ≤ u) (h2 : u ≤ n) : op p h v t u = (u == v || (decide (v < u) && (decide (h (p u) ≤ t) && op p h v t (p u)))) := by
  obtain ⟨u, rfl⟩ : ∃ j, u = j + 1 := ⟨u - 1, by omega⟩
  have l := hp (u + 1) (by omega) h2
  unfold op
  rw [← opB_more hp (h := h) (v := v) (t := t) (p (u + 1)) u (by omega) (by omega)]
  rfl
theorem op_self {v : Nat} {t : Int} (h1 : 1 ≤ v) (h2 : v ≤ n) : op p h v t v = true := by
  rw [op_eq hp h1 h2]
  simp
theorem op_ge {v t} : ∀ u, u ≤ n → op p h v t u = true → v ≤ u := by
  intro u
  cases u with
  | zero =>
    intro _ z
    have e : (0 == v) = true := z
    have := eq_of_beq e
    omega
  | succ u =>
    intro hu z
    rw [op_eq hp (by omega) hu, Bool.or_eq_true, Bool.and_eq_true] at z
    rcases z with z | z
    · have := eq_of_beq z
      omega
    · have := of_decide_eq_true z.1
      omega
/-- the way from z up to v ends with a child of v -/
theorem op_kid {v : Nat} {t : Int} (hv : 1 ≤ v) : ∀ z, v < z → z ≤ n → (op p h v t z = true ↔ ∃ c, v < c ∧ c ≤ z ∧ p c = v ∧ op p h c t z = true ∧ h v ≤ t) := by
  intro z
  induction z using Nat.strongRecOn with
  | ind z ih =>
    intro h1 h2
    have l := hp z (by omega) h2
    rw [op_eq hp (by omega) h2]
    have e : (z == v) = false := by simp; omega
    rw [e, Bool.false_or, decide_eq_true h1, Bool.true_and, Bool.and_eq_true, decide_eq_true_eq]
    constructor
    · rintro ⟨a1, a2⟩
      by_cases w : p z = v
      · refine ⟨z, h1, Nat.le_refl _, w, op_self hp (by omega) h2, by rw [← w]; exact a1⟩
      · have g := op_ge hp _ (by omega) a2
        obtain ⟨c, c1, c2, c3, c4, c5⟩ := (ih (p z) l (by omega) (by omega)).mp a2
        refine ⟨c, c1, by omega, c3, ?_, c5⟩
        rw [op_eq hp (by omega) h2, decide_eq_true (by omega : c < z), c4, decide_eq_true a1]
        simp
    · rintro ⟨c, c1, c2, c3, c4, c5⟩
      rw [op_eq hp (by omega) h2, Bool.or_eq_true] at c4
      rcases c4 with c4 | c4
      · have ez := eq_of_beq c4
        subst ez
        rw [c3]
        exact ⟨c5, op_self hp hv (by omega)⟩
      · rw [Bool.and_eq_true, Bool.and_eq_true, decide_eq_true_eq, decide_eq_true_eq] at c4
        refine ⟨c4.2.1, ?_⟩
        have g := op_ge hp _ (by omega) c4.2.2
        exact (ih (p z) l (by omega) (by omega)).mpr ⟨c, c1, by omega, c3, c4.2.2, c5⟩
/-- no two of a version's children are on one way up -/
theorem op_one {v c d : Nat} {t : Int} (hv : 1 ≤ v) : ∀ z, z ≤ n → v < c → v < d → p c = v → p d = v → op p h c t z = true → op p h d t z = true → c = d := by
  intro z
  induction z using Nat.strongRecOn with
  | ind z ih =>
    intro h2 vc vd pc pd a b
    have g1 := op_ge hp z h2 a
    have g2 := op_ge hp z h2 b
    have l := hp z (by omega) h2
    rw [op_eq hp (by omega) h2, Bool.or_eq_true, Bool.and_eq_true, Bool.and_eq_true] at a b
    rcases a with a | a
    · have ea := eq_of_beq a
      rcases b with b | b
      · have eb := eq_of_beq b
        omega
      · have := op_ge hp _ (by omega) b.2.2
        rw [ea, pc] at this
        omega
    · rcases b with b | b
      · have eb := eq_of_beq b
        have := op_ge hp _ (by omega) a.2.2
        rw [eb, pd] at this
        omega
      · exact ih (p z) l (by omega) vc vd pc pd a.2.2 b.2.2
omit hp in
/-- the children, from the last one on -/
def kids (p : Nat → Nat) (n v : Nat) : List Nat := ((List.range n).map (n - ·)).filter fun c => decide (p c = v)
omit hp in
theorem mem_kids {v c : Nat} : c ∈ kids p n v ↔ 1 ≤ c ∧ c ≤ n ∧ p c = v := by
  unfold kids
  rw [List.mem_filter, List.mem_map, decide_eq_true_eq]
  constructor
  · rintro ⟨⟨k, hk, rfl⟩, h⟩
    have := List.mem_range.mp hk
    exact ⟨by omega, by omega, h⟩
  · rintro ⟨h1, h2, h3⟩
    exact ⟨⟨n - c, List.mem_range.mpr (by omega), by omega⟩, h3⟩
omit hp in
theorem nodup_kids {v : Nat} : (kids p n v).Nodup := by
  refine List.Pairwise.filter _ (List.pairwise_map.mpr (List.Pairwise.imp_of_mem (fun {a b} ha hb e => ?_) List.nodup_range))
  have := List.mem_range.mp ha
  have := List.mem_range.mp hb
  intro z
  exact e (by omega)
omit hp in
theorem mem_opL {v z : Nat} : z ∈ opL p h n v ↔ z ≤ n ∧ v ≤ z ∧ op p h v (h z) z = true := by
  unfold opL
  rw [List.mem_filter, List.mem_range, Bool.and_eq_true, decide_eq_true_eq]
  constructor
  · rintro ⟨a, b, c⟩
    exact ⟨by omega, b, c⟩
  · rintro ⟨a, b, c⟩
    exact ⟨by omega, b, c⟩
omit hp in
theorem nodup_opL {v : Nat} : (opL p h n v).Nodup := List.Pairwise.filter _ List.nodup_range
theorem opL_perm {v : Nat} (h1 : 1 ≤ v) (h2 : v ≤ n) : (opL p h n v).Perm (v :: ((kids p n v).flatMap (opL p h n)).filter fun z => decide (h v ≤ h z)) := by
  refine (List.perm_ext_iff_of_nodup nodup_opL ?_).mpr fun z => ?_
  · refine List.nodup_cons.mpr ⟨fun m => ?_, List.Pairwise.filter _ ?_⟩
    · have m1 := (List.mem_filter.mp m).1
      obtain ⟨c, c1, c2⟩ := List.mem_flatMap.mp m1
      have k := mem_kids.mp c1
      have g := (mem_opL.mp c2).2.1
      have := hp c k.1 k.2.1
      omega
    · refine nodup_flat (fun c _ => nodup_opL) ?_
      refine List.Pairwise.imp_of_mem (l := kids p n v) (R := (· ≠ ·)) ?_ nodup_kids
      intro c d hc hd ne z hz1 hz2
      have kc := mem_kids.mp hc
      have kd := mem_kids.mp hd
      obtain ⟨z1, z2, z3⟩ := mem_opL.mp hz1
      obtain ⟨y1, y2, y3⟩ := mem_opL.mp hz2
      have lc := hp c kc.1 kc.2.1
      have ld := hp d kd.1 kd.2.1
      exact ne (op_one hp h1 z z1 (by omega) (by omega) kc.2.2 kd.2.2 z3 y3)
  · rw [mem_opL, List.mem_cons, List.mem_filter, List.mem_flatMap, decide_eq_true_eq]
    constructor
    · rintro ⟨a, b, c⟩
      by_cases e : z = v
      · exact .inl e
      · obtain ⟨d, d1, d2, d3, d4, d5⟩ := (op_kid hp h1 z (by omega) a).mp c
        exact .inr ⟨⟨d, mem_kids.mpr ⟨by omega, by omega, d3⟩, mem_opL.mpr ⟨a, d2, d4⟩⟩, d5⟩
    · rintro (e | ⟨⟨d, d1, d2⟩, d3⟩)
      · subst e
        exact ⟨h2, Nat.le_refl _, op_self hp h1 h2⟩
      · have kd := mem_kids.mp d1
        have o := mem_opL.mp d2
        have ld := hp d kd.1 kd.2.1
        exact ⟨o.1, by omega, (op_kid hp h1 z (by omega) o.1).mpr ⟨d, by omega, o.2.1, kd.2.2, o.2.2, d3⟩⟩
/-- the open row out of the children's -/
theorem openRow_eq {v : Nat} (h1 : 1 ≤ v) (h2 : v ≤ n) : openRow p h n v = ((downI ((kids p n v).flatMap (openRow p h n))).filter fun m => decide (h v ≤ m)) ++ [h v] := by
  refine (downI_uniq ?_ ?_).symm
  · refine List.Perm.trans ?_ ((opL_perm hp h1 h2).map h).symm
    rw [List.map_cons]
    refine List.perm_append_comm.trans (List.Perm.cons _ ?_)
    have a1 : (((kids p n v).flatMap (opL p h n)).filter fun z => decide (h v ≤ h z)).map h = (((kids p n v).flatMap (opL p h n)).map h).filter fun m => decide (h v ≤ m) := by
      rw [List.filter_map]
      rfl
    rw [a1]
    refine ((downI_perm _).filter _).trans (List.Perm.filter _ ?_)
    rw [List.map_flatMap]
    refine fl_perm fun c _ => ?_
    exact downI_perm _
  · refine List.pairwise_append.mpr ⟨(down_downI _).filter _, by simp, fun a ha b hb => ?_⟩
    have := (List.mem_filter.mp ha).2
    rw [List.mem_singleton.mp hb]
    simpa using this
end
/-! ### the walk's rows are the open rows of its heights, and the least -/
section
variable {W : Nat → Nat} {F : Nat → Int} {p : Nat → Nat} {n : Nat}
theorem bl_flat : ∀ k, k ≤ n → ∀ u, bl W F p n k u = ((List.range k).map (n - ·)).flatMap fun c => if p c = u then row W F p n c else []
  | 0, _, u => rfl
  | k + 1, hk, u => by
    have ih := bl_flat k (by omega) u
    have e : rwo W F (n - k) (bl W F p n k (n - k)) = row W F p n (n - k) := by
      unfold row
      rw [show n - (n - k) = k by omega]
    rw [bl_succ, List.range_succ, List.map_append, List.flatMap_append, ← ih, e]
    by_cases z : u = p (n - k)
    · rw [if_pos z]
      simp [z]
    · rw [if_neg z]
      have z2 : ¬ p (n - k) = u := fun y => z y.symm
      simp [z2]
theorem flat_filter {α β : Type} (q : α → Bool) (f : α → List β) : ∀ l : List α, (l.flatMap fun c => if q c = true then f c else []) = (l.filter q).flatMap f
  | [] => rfl
  | a :: l => by
    rw [List.flatMap_cons, flat_filter q f l, List.filter_cons]
    by_cases z : q a = true
    · rw [if_pos z, if_pos z, List.flatMap_cons]
    · rw [if_neg z, if_neg z]
      rfl
theorem bl_kids (hp : Par p n) {v : Nat} (h1 : 1 ≤ v) (h2 : v ≤ n) : bl W F p n (n - v) v = (kids p n v).flatMap (row W F p n) := by
  rw [bl_flat (n - v) (by omega) v]
  have e1 : (fun c => if p c = v then row W F p n c else []) = fun c => if (decide (p c = v)) = true then row W F p n c else [] := by
    funext c
    simp only [decide_eq_true_eq]
  rw [e1, flat_filter]
  unfold kids
  congr 1
  have sp : List.range n = List.range (n - v) ++ (List.range v).map (· + (n - v)) := by
    have := List.range_add (n := n - v) (m := v)
    rw [show n - v + v = n by omega] at this
    rw [this]
    congr 1
    refine List.map_congr_left fun k _ => ?_
    omega
  rw [sp, List.map_append, List.filter_append]
  have none : (((List.range v).map (· + (n - v))).map (n - ·)).filter (fun c => decide (p c = v)) = [] := by
    refine List.filter_eq_nil_iff.mpr fun c hc => ?_
    obtain ⟨d, hd, rfl⟩ := List.mem_map.mp hc
    obtain ⟨k, hk, rfl⟩ := List.mem_map.mp hd
    have := List.mem_range.mp hk
    have l := hp (n - (k + (n - v))) (by omega) (by omega)
    simp
    omega
  rw [none, List.append_nil]
/-- the walk's height -/
def wh (W : Nat → Nat) (F : Nat → Int) (p : Nat → Nat) (n v : Nat) : Int := sh (W v) (F v) (downI (bl W F p n (n - v) v))
theorem row_eq (hp : Par p n) {v : Nat} (h1 : 1 ≤ v) (h2 : v ≤ n) : row W F p n v = srow (W v) (F v) (downI ((kids p n v).flatMap (row W F p n))) := by
  unfold row rwo
  rw [bl_kids hp h1 h2]
  rfl
theorem row_down (v : Nat) : Down (row W F p n v) := srow_down (down_downI _)
/-- down from n -/
theorem from_last {Q : Nat → Prop} (n : Nat) (h : ∀ v, v ≤ n → (∀ c, v < c → c ≤ n → Q c) → Q v) : ∀ v, v ≤ n → Q v := by
  have go : ∀ k, ∀ v, v ≤ n → n - v ≤ k → Q v := by
    intro k
    induction k with
    | zero => exact fun v h1 h2 => h v h1 fun c c1 c2 => by omega
    | succ k ih => exact fun v h1 h2 => h v h1 fun c c1 c2 => ih c c2 (by omega)
  exact fun v hv => go n v hv (by omega)
theorem row_open (hp : Par p n) : ∀ v, v ≤ n → 1 ≤ v → row W F p n v = openRow p (wh W F p n) n v := by
  refine from_last n fun v h2 ih h1 => ?_
  rw [openRow_eq hp h1 h2, row_eq hp h1 h2]
  have e : (kids p n v).flatMap (openRow p (wh W F p n) n) = (kids p n v).flatMap (row W F p n) := by
    refine fl_congr fun c hc => ?_
    have k := mem_kids.mp hc
    have l := hp c k.1 k.2.1
    exact (ih c (by omega) k.2.1 k.1).symm
  rw [e]
  unfold wh
  rw [bl_kids hp h1 h2]
  rfl
theorem row_few (hp : Par p n) {v : Nat} (h : 1 ≤ W v) : (row W F p n v).length ≤ W v := rwo_len h _
theorem open_down (h : Nat → Int) (v : Nat) : Down (openRow p h n v) := down_downI _
/-- no open row of any heights that are let is below the walk's -/
theorem row_least (hp : Par p n) (hW : ∀ v, 1 ≤ v → v ≤ n → 1 ≤ W v) {h : Nat → Int} (hf : ∀ v, 1 ≤ v → v ≤ n → F v ≤ h v) (hl : ∀ v, 1 ≤ v → v ≤ n → (openRow p h n v).length ≤ W v) :
    ∀ v, v ≤ n → 1 ≤ v → lx (row W F p n v) (openRow p h n v) := by
  refine from_last n fun v h2 ih h1 => ?_
  have len := hl v h1 h2
  rw [openRow_eq hp h1 h2] at len ⊢
  rw [row_eq hp h1 h2]
  refine lx_step (hW v h1 h2) (down_downI _) (down_downI _) (lx_flat fun c hc => ?_) (hf v h1 h2) ?_
  · have k := mem_kids.mp hc
    have l := hp c k.1 k.2.1
    rw [downI_self (row_down c), downI_self (open_down h c)]
    exact ih c (by omega) k.2.1 k.1
  · rw [List.length_append] at len
    exact len
end
end K15
namespace K15
open PySem PySem.Spec PyProof.Rows L2 DL
/-! ### all heights that are let -/
abbrev hF (hs : List Int) (first : Nat) : Nat → Int := fun z => gv hs (z + 1 - first)
section
variable (p : Nat → Nat) (W : Nat → Nat) (F : Nat → Int) (n : Nat) (most : Int)
abbrev St' := List Int × List (List Int)
def hsUp (v : Nat) : List Int := (List.range (most + 1 - F v).toNat).map fun (k : Nat) => F v + (k : Int)
def grow (v : Nat) (s : St') (t : Int) : Option St' := if (openRow p (hF (t :: s.1) v) n v).length ≤ W v then some (t :: s.1, openRow p (hF (t :: s.1) v) n v :: s.2) else none
def stt : Nat → List St'
  | 0 => [([], [])]
  | k + 1 => (stt k).flatMap fun s => (hsUp F most (n - k)).filterMap (grow p W n (n - k) s)
theorem stt_succ (k : Nat) : stt p W F n most (k + 1) = (stt p W F n most k).flatMap fun s => (hsUp F most (n - k)).filterMap (grow p W n (n - k) s) := rfl
end
theorem fl_len {α β : Type} {f : α → List β} {m : Nat} : ∀ {l : List α}, (∀ x ∈ l, (f x).length ≤ m) → (l.flatMap f).length ≤ m * l.length
  | [], _ => Nat.zero_le _
  | a :: l, h => by
    rw [List.flatMap_cons, List.length_append, List.length_cons, Nat.mul_succ]
    have h1 := h a List.mem_cons_self
    have h2 := fl_len (l := l) fun x z => h x (List.mem_cons_of_mem _ z)
    omega
theorem hsUp_len {F : Nat → Int} {most : Int} {v : Nat} (h1 : 1 ≤ F v) (h2 : most ≤ 5) : (hsUp F most v).length ≤ 5 := by
  unfold hsUp
  rw [List.length_map, List.length_range]
  omega
theorem mem_hsUp {F : Nat → Int} {most t : Int} {v : Nat} : t ∈ hsUp F most v ↔ F v ≤ t ∧ t ≤ most := by
  unfold hsUp
  rw [List.mem_map]
  constructor
  · rintro ⟨k, hk, rfl⟩
    have := List.mem_range.mp hk
    omega
  · rintro ⟨h1, h2⟩
    exact ⟨(t - F v).toNat, List.mem_range.mpr (by omega), by omega⟩
section
variable {p : Nat → Nat} {W : Nat → Nat} {F : Nat → Int} {n : Nat} {most : Int}
theorem stt_len (hF1 : ∀ v, 1 ≤ v → v ≤ n → 1 ≤ F v) (hm : most ≤ 5) : ∀ k, k ≤ n → (stt p W F n most k).length ≤ 5 ^ k
  | 0, _ => Nat.le_refl _
  | k + 1, hk => by
    have ih := stt_len hF1 hm k (by omega)
    rw [stt_succ]
    refine Nat.le_trans (fl_len (m := 5) fun s _ => ?_) ?_
    · exact Nat.le_trans (List.length_filterMap_le _ _) (hsUp_len (hF1 _ (by omega) (by omega)) hm)
    · rw [Nat.pow_succ]
      omega
/-- only the heights from v on matter -/
theorem op_congr {h h' : Nat → Int} (hp : Par p n) {v : Nat} {t : Int} (e : ∀ u, v ≤ u → u ≤ n → h u = h' u) : ∀ u, u ≤ n → op p h v t u = op p h' v t u := by
  intro u
  induction u using Nat.strongRecOn with
  | ind u ih =>
    intro hu
    by_cases z : u = 0
    · subst z
      rfl
    · have l := hp u (by omega) hu
      rw [op_eq hp (by omega) hu, op_eq hp (by omega) hu, ih (p u) l (by omega)]
      by_cases w : v ≤ p u
      · rw [e (p u) w (by omega)]
      · have n1 : op p h' v t (p u) = false := by
          cases q : op p h' v t (p u) with
          | false => rfl
          | true =>
            have := op_ge hp _ (by omega) q
            omega
        rw [n1]
        simp
theorem openRow_congr {h h' : Nat → Int} (hp : Par p n) {v : Nat} (e : ∀ u, v ≤ u → u ≤ n → h u = h' u) : openRow p h n v = openRow p h' n v := by
  unfold openRow opL
  congr 1
  have e1 : (List.range (n + 1)).filter (fun z => decide (v ≤ z) && op p h v (h z) z) = (List.range (n + 1)).filter fun z => decide (v ≤ z) && op p h' v (h' z) z := by
    refine List.filter_congr fun z hz => ?_
    have := List.mem_range.mp hz
    by_cases w : v ≤ z
    · rw [e z w (by omega), op_congr hp e z (by omega)]
    · rw [decide_eq_false w]
      rfl
  rw [e1]
  refine List.map_congr_left fun z hz => ?_
  have m := (List.mem_filter.mp hz)
  have m1 := List.mem_range.mp m.1
  rw [Bool.and_eq_true, decide_eq_true_eq] at m
  exact e z m.2.1 (by omega)
/-- the heights and the open rows from m on -/
def hl (h : Nat → Int) (n m : Nat) : List Int := (List.range (n + 1 - m)).map fun k => h (m + k)
def rl (p : Nat → Nat) (h : Nat → Int) (n m : Nat) : List (List Int) := (List.range (n + 1 - m)).map fun k => openRow p h n (m + k)
theorem hl_cons {h : Nat → Int} {m : Nat} (hm : m ≤ n) : hl h n m = h m :: hl h n (m + 1) := by
  unfold hl
  rw [show n + 1 - m = (n - m) + 1 by omega, List.range_succ_eq_map, List.map_cons, List.map_map, show n + 1 - (m + 1) = n - m by omega]
  congr 1
  refine List.map_congr_left fun k _ => ?_
  show h (m + (k + 1)) = h (m + 1 + k)
  congr 1
  omega
theorem rl_cons {h : Nat → Int} {m : Nat} (hm : m ≤ n) : rl p h n m = openRow p h n m :: rl p h n (m + 1) := by
  unfold rl
  rw [show n + 1 - m = (n - m) + 1 by omega, List.range_succ_eq_map, List.map_cons, List.map_map, show n + 1 - (m + 1) = n - m by omega]
  congr 1
  refine List.map_congr_left fun k _ => ?_
  show openRow p h n (m + (k + 1)) = openRow p h n (m + 1 + k)
  congr 1
  omega
theorem hF_hl {h : Nat → Int} {m u : Nat} (h1 : m ≤ u) (h2 : u ≤ n) : hF (hl h n m) m u = h u := by
  have g : (hl h n m)[u - m]? = some (h u) := by
    unfold hl
    rw [List.getElem?_map, List.getElem?_range (by omega)]
    show some (h (m + (u - m))) = _
    rw [show m + (u - m) = u by omega]
  show gv (hl h n m) (u + 1 - m) = h u
  have q := gv_get (l := hl h n m) (k := u - m) (List.getElem?_eq_some_iff.mp g).1
  rw [g] at q
  rw [show u + 1 - m = u - m + 1 by omega]
  exact (Option.some.inj q).symm
theorem hl_congr {h h' : Nat → Int} {m : Nat} (e : ∀ u, m ≤ u → u ≤ n → h u = h' u) : hl h n m = hl h' n m := by
  unfold hl
  refine List.map_congr_left fun k hk => ?_
  have := List.mem_range.mp hk
  exact e _ (by omega) (by omega)
theorem rl_congr {h h' : Nat → Int} (hp : Par p n) {m : Nat} (e : ∀ u, m ≤ u → u ≤ n → h u = h' u) : rl p h n m = rl p h' n m := by
  unfold rl
  refine List.map_congr_left fun k hk => ?_
  exact openRow_congr hp fun u h1 h2 => e u (by omega) h2
/-- heights that are let, from m on -/
def Let (p : Nat → Nat) (W : Nat → Nat) (F : Nat → Int) (n : Nat) (most : Int) (m : Nat) (h : Nat → Int) : Prop := ∀ z, m ≤ z → z ≤ n → F z ≤ h z ∧ h z ≤ most ∧ (openRow p h n z).length ≤ W z
theorem mem_stt (hp : Par p n) : ∀ k, k ≤ n → ∀ s, s ∈ stt p W F n most k ↔ ∃ h, s = (hl h n (n + 1 - k), rl p h n (n + 1 - k)) ∧ Let p W F n most (n + 1 - k) h := by
  intro k
  induction k with
  | zero =>
    intro _ s
    have e1 : ∀ h : Nat → Int, hl h n (n + 1 - 0) = [] ∧ rl p h n (n + 1 - 0) = [] := fun h => by
      unfold hl rl
      rw [show n + 1 - (n + 1 - 0) = 0 by omega]
      exact ⟨rfl, rfl⟩
    constructor
    · intro z
      have z2 : s = ([], []) := by simpa [stt] using z
      refine ⟨fun _ => 0, ?_, fun z h1 h2 => by omega⟩
      rw [(e1 _).1, (e1 _).2, z2]
    · rintro ⟨h, rfl, _⟩
      rw [(e1 _).1, (e1 _).2]
      simp [stt]
  | succ k ih =>
    intro hk s
    have ih := ih (by omega)
    obtain ⟨m, hm⟩ : ∃ m, m = n - k := ⟨_, rfl⟩
    have em : n + 1 - (k + 1) = m := by omega
    have em1 : n + 1 - k = m + 1 := by omega
    rw [em1] at ih
    rw [stt_succ, em, ← hm, List.mem_flatMap]
    constructor
    · rintro ⟨s0, h0, h1⟩
      obtain ⟨h, rfl, L⟩ := (ih s0).mp h0
      obtain ⟨t, t1, t2⟩ := List.mem_filterMap.mp h1
      unfold grow at t2
      dsimp only at t2
      obtain ⟨h', hh⟩ : ∃ h' : Nat → Int, h' = fun u => if u = m then t else h u := ⟨_, rfl⟩
      have a1 : h' m = t := by rw [hh]; exact if_pos rfl
      have a2 : ∀ u, m + 1 ≤ u → h u = h' u := fun u hu => by rw [hh]; exact (if_neg (by omega)).symm
      have e1 : hl h n (m + 1) = hl h' n (m + 1) := hl_congr fun u u1 _ => a2 u u1
      have e2 : rl p h n (m + 1) = rl p h' n (m + 1) := rl_congr hp fun u u1 _ => a2 u u1
      have e3 : t :: hl h n (m + 1) = hl h' n m := by rw [e1, hl_cons (h := h') (m := m) (by omega), a1]
      have e4 : openRow p (hF (t :: hl h n (m + 1)) m) n m = openRow p h' n m := openRow_congr hp fun u u1 u2 => by rw [e3]; exact hF_hl u1 u2
      rw [e4] at t2
      split at t2
      · rename_i w
        cases t2
        refine ⟨h', ?_, fun z z1 z2 => ?_⟩
        · rw [e3, e2, rl_cons (h := h') (m := m) (by omega)]
        · by_cases y : z = m
          · subst y
            have r := mem_hsUp.mp t1
            rw [a1]
            exact ⟨r.1, r.2, w⟩
          · have l := L z (by omega) z2
            rw [← a2 z (by omega), ← openRow_congr hp fun u u1 u2 => a2 u (by omega)]
            exact l
      · cases t2
    · rintro ⟨h, rfl, L⟩
      refine ⟨(hl h n (m + 1), rl p h n (m + 1)), (ih _).mpr ⟨h, rfl, fun z z1 z2 => L z (by omega) z2⟩, List.mem_filterMap.mpr ⟨h m, ?_, ?_⟩⟩
      · have l := L m (Nat.le_refl _) (by omega)
        exact mem_hsUp.mpr ⟨l.1, l.2.1⟩
      · have e3 : h m :: hl h n (m + 1) = hl h n m := (hl_cons (h := h) (m := m) (by omega)).symm
        have e4 : openRow p (hF (h m :: hl h n (m + 1)) m) n m = openRow p h n m := openRow_congr hp fun u u1 u2 => by rw [e3]; exact hF_hl u1 u2
        unfold grow
        dsimp only
        rw [e4, if_pos (L m (Nat.le_refl _) (by omega)).2.2, e3, ← rl_cons (h := h) (m := m) (by omega)]
theorem nodup_stt : ∀ k, (stt p W F n most k).Nodup
  | 0 => by simp [stt]
  | k + 1 => by
    rw [stt_succ]
    have form : ∀ {s : St'} {t : Int} {x : St'}, grow p W n (n - k) s t = some x → x.1 = t :: s.1 ∧ ∃ r, x.2 = r :: s.2 := fun {s t x} e => by
      unfold grow at e
      split at e
      · cases e
        exact ⟨rfl, _, rfl⟩
      · cases e
    refine nodup_flat (fun s _ => ?_) (List.Pairwise.imp ?_ (nodup_stt k))
    · refine List.Pairwise.filterMap _ (R := (· ≠ ·)) (fun a a' ne b hb b' hb' e => ?_) ?_
      · obtain ⟨f1, _⟩ := form hb
        obtain ⟨f2, _⟩ := form hb'
        rw [← e, f1] at f2
        exact ne (by injection f2)
      · unfold hsUp
        refine List.pairwise_map.mpr (List.Pairwise.imp (fun {a b} ne z => ne (by omega)) List.nodup_range)
    · intro a b ne x hx hy
      obtain ⟨t, _, h1⟩ := List.mem_filterMap.mp hx
      obtain ⟨t', _, h2⟩ := List.mem_filterMap.mp hy
      obtain ⟨f1, r, f2⟩ := form h1
      obtain ⟨g1, r', g2⟩ := form h2
      rw [f1] at g1
      rw [f2] at g2
      injection g1 with _ g1
      injection g2 with _ g2
      exact ne (Prod.ext g1 g2)
end
end K15
namespace K15
open PySem PySem.Spec PyProof.Rows L2 DL
/-! ### what the law draws -/
theorem pw18 : p_pow (.int 10) (.int 18) = some (.im (.int 1000000000000000000)) := by rfl
theorem rgC_nat {m : Nat} (h : m ≤ 1000000) : rgC (m : Int) = true := decide_eq_true (by omega)
theorem v_draw (sc : List Int) (at_ many : Nat) (hm : many ≤ 1000) : ∃ r, F__law_draw [lZ sc, nD at_, nD many] = some r ∧ ∃ ns : List Int, r = .ac (ns.map PyData.int) ∧ ns.length = many ∧ ∀ x ∈ ns, 0 ≤ x := by
  refine w_def rfl ?_
  have rc := rgC_nat (m := many) (by omega)
  have c0 : t_of (x_bin p_eq (x_cb c_len (a_cons (x_var 0) a_nil)) (x_c (.int 0))) [im (lZ sc), im (nD at_), im (nD many), none, none, none, none] = some (decide ((((sc.map PyData.int).length : Nat) : Int) = 0), [im (lZ sc), im (nD at_), im (nD many), none, none, none, none]) := bang (binI (cbLen (.inr (.inl (vI rfl)))) cI e_eq)
  rw [List.length_map] at c0
  by_cases h0 : sc = []
  · subst h0
    refine w_seq (w_ifT c0 ?_)
    have lc := lcA (fi := i_rng1 (x_var 2)) (γ := g_name 6) (fe := x_c (.int 0)) (vs := [6]) (e := [im (lZ []), im (nD at_), im (nD many), none, none, none, none]) (List.range many) nD (fun _ => .int 0) (i_rng1_at (vI rfl) (by omega)) rfl (by rw [List.length_range]; omega) fun k _ => ⟨_, rfl, _, rfl, rfl, rfl⟩
    refine w_ret lc ⟨_, rfl, List.replicate many 0, ?_, by simp, fun x hx => ?_⟩
    · show Rs.ac ((List.range many).map fun _ => PyData.int 0) = _
      rw [List.map_replicate, List.map_const', List.length_range]
    · rw [(List.mem_replicate.mp hx).2]
      exact Int.le_refl _
  · have hl : 0 < sc.length := List.length_pos_iff.mpr h0
    have hl2 : ¬ ((sc.length : Int) = 0) := by omega
    rw [decide_eq_false hl2] at c0
    refine w_seq (w_ifF c0 (w_nx ?_))
    show wS _ _ _
    have md := e_mod (i := (at_ : Int)) (j := (sc.length : Int)) (by omega)
    have b0 : 0 ≤ (at_ : Int) % (sc.length : Int) := Int.emod_nonneg _ (by omega)
    have b1 : (at_ : Int) % (sc.length : Int) < sc.length := Int.emod_lt_of_pos _ (by omega)
    have ix := ixzL (f := PyData.int) (l := sc) b0 b1
    generalize gv sc (((at_ : Int) % (sc.length : Int)).toNat + 1) = cell at ix
    refine w_seq (w_setI (d := .int cell) (e1 := [im (lZ sc), im (nD at_), im (nD many), none, none, none, none]) ?_ rfl ?_)
    · simp [evs2, x_ix, and_assoc, nD, md, ix]
    show wS _ [im (lZ sc), im (nD at_), im (nD many), im (.int cell), none, none, none] _
    (first | refine w_seq (w_setF' ?_) | refine w_seq (w_set' ?_) | refine w_seq (w_drop' ?_) | refine w_seq (w_ret' ?_) | refine w_ret' ?_ | refine w_drop' ?_ | refine w_setF' ?_ | refine w_set' ?_) <;> simp [evs2, x_ix, and_assoc, okLen]
    -- both walks
    have walk1 : ∀ (Q : Fl → Prop) (c0 : Int), (∀ (c : Int) (acc : List Int) (a : Option Sl), acc.length = many → (∀ x ∈ acc, 0 ≤ x) → Q (.nx [im (lZ sc), im (nD at_), im (nD many), im (.int c), ac (acc.map PyData.int), none, a])) →
        wS (s_for (i_rng1 (x_var 2)) (g_name 6) [6] (s_seq (s_drop (x_app 4 (x_bin p_mod (x_cb c_int (a_cons (x_var 3) a_nil)) (x_c (.int 9931))))) (s_seq (s_setF 3 (x_bin p_div (x_var 3) (x_c (.int 9931)))) s_nx))) [im (lZ sc), im (nD at_), im (nD many), im (.int c0), ac [], none, none] Q := fun Q c0 hQ => by
      obtain ⟨J, hJ⟩ : ∃ J : Nat → Ev → Prop, ∀ k e, J k e = (∃ (c : Int) (acc : List Int) (a : Option Sl), acc.length = k ∧ (∀ x ∈ acc, 0 ≤ x) ∧ e = [im (lZ sc), im (nD at_), im (nD many), im (.int c), ac (acc.map PyData.int), none, a]) := ⟨fun k e => _, fun _ _ => rfl⟩
      refine w_forN many nD J (i_rng1_at (vI rfl) (by omega)) (by rw [hJ]; exact ⟨c0, [], none, rfl, (fun x hx => by simp at hx), rfl⟩) (fun k hk e h => ?_) fun e h => ?_
      · rw [hJ] at h
        obtain ⟨c, acc, a, l, p, rfl⟩ := h
        refine ⟨rfl, _, rfl, ?_⟩
        have m1 := e_mod (i := c) (j := 9931) (by omega)
        have d1 := e_div (i := c) (j := 9931) (by omega) (by omega)
        have k1 : okLen (acc.length + 1) = true := okLen_yes (by omega)
        (first | refine w_seq (w_setF' ?_) | refine w_seq (w_set' ?_) | refine w_seq (w_drop' ?_) | refine w_seq (w_ret' ?_) | refine w_ret' ?_ | refine w_drop' ?_ | refine w_setF' ?_ | refine w_set' ?_) <;> simp [evs2, x_ix, and_assoc, m1, k1]
        (first | refine w_seq (w_setF' ?_) | refine w_seq (w_set' ?_) | refine w_seq (w_drop' ?_) | refine w_seq (w_ret' ?_) | refine w_ret' ?_ | refine w_drop' ?_ | refine w_setF' ?_ | refine w_set' ?_) <;> simp [evs2, x_ix, and_assoc, d1]
        rw [hJ]
        refine ⟨_, acc ++ [c % 9931], _, by simp [l], fun x hx => ?_, by rw [List.map_append]; rfl⟩
        rcases List.mem_append.mp hx with z | z
        · exact p x z
        · rw [List.mem_singleton.mp z]
          exact Int.emod_nonneg _ (by omega)
      · rw [hJ] at h
        obtain ⟨c, acc, a, l, p, rfl⟩ := h
        exact hQ c acc a l p
    have walk2 : ∀ (Q : Fl → Prop) (m0 : Int), (∀ (c : Int) (acc : List Int) (a : Option Sl), acc.length = many → (∀ x ∈ acc, 0 ≤ x) → Q (.nx [im (lZ sc), im (nD at_), im (nD many), im (.int cell), ac (acc.map PyData.int), im (.int c), a])) →
        wS (s_for (i_rng1 (x_var 2)) (g_name 6) [6] (s_seq (s_setF 5 (x_bin p_mod (x_cb c_int (a_cons (x_bin p_add (x_bin p_mul (x_var 5) (x_c (.int 30269))) (x_c (.int 6689))) a_nil)) (x_c (.int 2147483423))))
          (s_seq (s_drop (x_app 4 (x_bin p_mod (x_cb c_int (a_cons (x_bin p_div (x_var 5) (x_c (.int 19))) a_nil)) (x_c (.int 9931))))) s_nx))) [im (lZ sc), im (nD at_), im (nD many), im (.int cell), ac [], im (.int m0), none] Q := fun Q m0 hQ => by
      obtain ⟨J, hJ⟩ : ∃ J : Nat → Ev → Prop, ∀ k e, J k e = (∃ (c : Int) (acc : List Int) (a : Option Sl), acc.length = k ∧ (∀ x ∈ acc, 0 ≤ x) ∧ e = [im (lZ sc), im (nD at_), im (nD many), im (.int cell), ac (acc.map PyData.int), im (.int c), a]) := ⟨fun k e => _, fun _ _ => rfl⟩
      refine w_forN many nD J (i_rng1_at (vI rfl) (by omega)) (by rw [hJ]; exact ⟨m0, [], none, rfl, (fun x hx => by simp at hx), rfl⟩) (fun k hk e h => ?_) fun e h => ?_
      · rw [hJ] at h
        obtain ⟨c, acc, a, l, p, rfl⟩ := h
        refine ⟨rfl, _, rfl, ?_⟩
        have u1 := e_mul (i := c) (j := 30269) (.inr ⟨by omega, by omega⟩)
        have m1 := e_mod (i := c * 30269 + 6689) (j := 2147483423) (by omega)
        have d1 := e_div (i := (c * 30269 + 6689) % 2147483423) (j := 19) (by omega) (by omega)
        have m2 := e_mod (i := (c * 30269 + 6689) % 2147483423 / 19) (j := 9931) (by omega)
        have k1 : okLen (acc.length + 1) = true := okLen_yes (by omega)
        (first | refine w_seq (w_setF' ?_) | refine w_seq (w_set' ?_) | refine w_seq (w_drop' ?_) | refine w_seq (w_ret' ?_) | refine w_ret' ?_ | refine w_drop' ?_ | refine w_setF' ?_ | refine w_set' ?_) <;> simp [evs2, x_ix, and_assoc, u1, m1]
        (first | refine w_seq (w_setF' ?_) | refine w_seq (w_set' ?_) | refine w_seq (w_drop' ?_) | refine w_seq (w_ret' ?_) | refine w_ret' ?_ | refine w_drop' ?_ | refine w_setF' ?_ | refine w_set' ?_) <;> simp [evs2, x_ix, and_assoc, d1, m2, k1]
        rw [hJ]
        refine ⟨_, acc ++ [(c * 30269 + 6689) % 2147483423 / 19 % 9931], _, by simp [l], fun x hx => ?_, by rw [List.map_append]; rfl⟩
        rcases List.mem_append.mp hx with z | z
        · exact p x z
        · rw [List.mem_singleton.mp z]
          exact Int.emod_nonneg _ (by omega)
      · rw [hJ] at h
        obtain ⟨c, acc, a, l, p, rfl⟩ := h
        exact hQ c acc a l p
    have rest : wS (s_seq (s_setF 5 (x_bin p_mod (x_cb c_int (a_cons (x_bin p_add (x_bin p_add (x_bin p_add (x_bin p_mul (x_var 3) (x_c (.int 52774))) (x_bin p_mul (x_var 1) (x_c (.int 8087)))) (x_bin p_mul (x_cb c_len (a_cons (x_var 0) a_nil)) (x_c (.int 613)))) (x_c (.int 53))) a_nil)) (x_c (.int 2147482951))))
        (s_seq (s_for (i_rng1 (x_var 2)) (g_name 6) [6] (s_seq (s_setF 5 (x_bin p_mod (x_cb c_int (a_cons (x_bin p_add (x_bin p_mul (x_var 5) (x_c (.int 30269))) (x_c (.int 6689))) a_nil)) (x_c (.int 2147483423))))
          (s_seq (s_drop (x_app 4 (x_bin p_mod (x_cb c_int (a_cons (x_bin p_div (x_var 5) (x_c (.int 19))) a_nil)) (x_c (.int 9931))))) s_nx))) (s_seq (s_ret (x_var 4)) s_nx))) [im (lZ sc), im (nD at_), im (nD many), im (.int cell), ac [], none, none]
        (finK fun r => ∃ ns : List Int, r = .ac (ns.map PyData.int) ∧ ns.length = many ∧ ∀ x ∈ ns, 0 ≤ x) := by
      obtain ⟨z, hz⟩ : ∃ z : Int, x_bin p_mod (x_cb c_int (a_cons (x_bin p_add (x_bin p_add (x_bin p_add (x_bin p_mul (x_var 3) (x_c (.int 52774))) (x_bin p_mul (x_var 1) (x_c (.int 8087)))) (x_bin p_mul (x_cb c_len (a_cons (x_var 0) a_nil)) (x_c (.int 613)))) (x_c (.int 53))) a_nil)) (x_c (.int 2147482951))
          [im (lZ sc), im (nD at_), im (nD many), im (.int cell), ac [], none, none] = some (.im (.int z), [im (lZ sc), im (nD at_), im (nD many), im (.int cell), ac [], none, none]) :=
        ⟨_, binI (cbInt (binI (binI (binI (binI (vI rfl) cI (e_mul (.inr ⟨by omega, by omega⟩))) (binI (vI rfl) cI (e_mul (.inr ⟨by omega, by omega⟩))) e_add) (binI (cbLen (.inr (.inl (vI rfl)))) cI (e_mul (.inr ⟨by omega, by omega⟩))) e_add) cI e_add)) cI (e_mod (by omega))⟩
      refine w_seq (w_setI hz rfl ?_)
      show wS _ [im (lZ sc), im (nD at_), im (nD many), im (.int cell), ac [], im (.int z), none] _
      refine w_seq (walk2 _ _ fun c acc a l p => ?_)
      show wS _ _ _
      refine w_seq (w_ret (r := .br 4) rfl ⟨_, rfl, acc, rfl, l, p⟩)
    by_cases h1 : at_ < sc.length
    · by_cases h2 : (1000000000000000000 : Int) ≤ (if cell < 0 then -cell else cell)
      · refine w_seq (w_ifT (e1 := [im (lZ sc), im (nD at_), im (nD many), im (.int cell), ac [], none, none]) ?_ ?_)
        · simp [evs2, x_ix, and_assoc, nD, h1, pw18, h2]
        · refine w_seq (walk1 _ _ fun c acc a l p => ?_)
          show wS _ _ _
          refine w_seq (w_ret (r := .br 4) rfl ⟨_, rfl, acc, rfl, l, p⟩)
      · refine w_seq (w_ifF (e1 := [im (lZ sc), im (nD at_), im (nD many), im (.int cell), ac [], none, none]) ?_ (w_nx rest))
        simp [evs2, x_ix, and_assoc, nD, h1, pw18, h2]
    · refine w_seq (w_ifF (e1 := [im (lZ sc), im (nD at_), im (nD many), im (.int cell), ac [], none, none]) ?_ (w_nx rest))
      simp [evs2, x_ix, and_assoc, nD, h1]
end K15
namespace K15
open PySem PySem.Spec PyProof.Rows L2 DL
theorem gv_app {α : Type} [Inhabited α] {l : List α} {a : α} {v : Nat} (h1 : 1 ≤ v) (h : v ≤ l.length) : gv (l ++ [a]) v = gv l v := by
  unfold gv
  rw [List.getD_eq_getElem?_getD, List.getD_eq_getElem?_getD, List.getElem?_append_left (by omega)]
theorem gv_last {α : Type} [Inhabited α] {l : List α} {a : α} : gv (l ++ [a]) (l.length + 1) = a := by
  unfold gv
  rw [Nat.add_sub_cancel, List.getD_eq_getElem?_getD, List.getElem?_append_right (Nat.le_refl _), Nat.sub_self]
  rfl
theorem v_tree {ns : List Int} {many : Nat} (hl : many + 1 ≤ ns.length) (hm : many ≤ 100) : ∃ r, F__law_tree [lZ ns, nD many] = some r ∧ ∃ P : List Nat, r = .im (tN P) ∧ P.length = many ∧ Par (gv P) many := by
  refine w_def rfl ?_
  have i0 := ixzL (f := PyData.int) (l := ns) (i := 0) (by omega) (by omega)
  obtain ⟨m, hm2⟩ : ∃ m : Int, x_bin p_mod (x_cb c_int (a_cons (x_ix (x_var 0) (x_c (.int 0))) a_nil)) (x_c (.int 6)) [im (lZ ns), im (nD many), none, none, none, none] = some (.im (.int m), [im (lZ ns), im (nD many), none, none, none, none]) := ⟨_, binI (cbInt (binI (vI rfl) cI i0)) cI (e_mod (by omega))⟩
  refine w_seq (w_setI hm2 rfl ?_)
  show wS _ [im (lZ ns), im (nD many), im (.int m), none, none, none] _
  (first | refine w_seq (w_setF' ?_) | refine w_seq (w_set' ?_) | refine w_seq (w_drop' ?_) | refine w_seq (w_ret' ?_) | refine w_ret' ?_ | refine w_drop' ?_ | refine w_setF' ?_ | refine w_set' ?_) <;> simp [evs2, x_ix, and_assoc, okLen]
  obtain ⟨J, hJ⟩ : ∃ J : Nat → Ev → Prop, ∀ k e, J k e = (∃ (P : List Nat) (a b : Option Sl), P.length = k ∧ Par (gv P) k ∧ e = [im (lZ ns), im (nD many), im (.int m), ac (P.map nD), a, b]) := ⟨fun k e => _, fun _ _ => rfl⟩
  refine w_seq (w_forN many nD J (iRng1 (vI rfl) (by omega)) (by rw [hJ]; exact ⟨[], none, none, rfl, fun v h1 h2 => by omega, rfl⟩) (fun k hk e h => ?_) fun e h => ?_)
  · rw [hJ] at h
    obtain ⟨P, a, b, hP, par, rfl⟩ := h
    refine ⟨rfl, _, rfl, ?_⟩
    show wS _ [im (lZ ns), im (nD many), im (.int m), ac (P.map nD), im (nD k), b] _
    have ik := ixzL (f := PyData.int) (l := ns) (i := 1 + (k : Int)) (by omega) (by omega)
    generalize gv ns ((1 + (k : Int)).toNat + 1) = c at ik
    refine w_seq (w_setI (d := .int c) (e1 := [im (lZ ns), im (nD many), im (.int m), ac (P.map nD), im (nD k), b]) (cbInt (binI (vI rfl) (binI cI (vI rfl) e_add) ik)) rfl ?_)
    show wS _ [im (lZ ns), im (nD many), im (.int m), ac (P.map nD), im (nD k), im (.int c)] _
    have put : ∀ {x : Fe} {q : Int}, x [im (lZ ns), im (nD many), im (.int m), ac (P.map nD), im (nD k), im (.int c)] = some (.im (.int q), [im (lZ ns), im (nD many), im (.int m), ac (P.map nD), im (nD k), im (.int c)]) → 0 ≤ q → q ≤ k →
        wS (s_drop (x_app 3 x)) [im (lZ ns), im (nD many), im (.int m), ac (P.map nD), im (nD k), im (.int c)] (seqK s_nx (loopK (J (k + 1)) (seqK (s_seq (s_ret (x_cb c_tuple (a_cons (x_var 3) a_nil))) s_nx) (finK fun r => ∃ P : List Nat, r = .im (tN P) ∧ P.length = many ∧ Par (gv P) many)))) := fun {x q} hx h1 h2 => by
      refine w_app hx rfl (by rw [List.length_map]; omega) ?_
      show wS s_nx _ _
      refine w_nx ?_
      show J (k + 1) _
      rw [hJ]
      refine ⟨P ++ [q.toNat], im (nD k), im (.int c), by rw [List.length_append, hP]; rfl, fun v v1 v2 => ?_, ?_⟩
      · by_cases z : v ≤ P.length
        · rw [gv_app v1 z]
          exact par v v1 (by omega)
        · have e : v = P.length + 1 := by omega
          rw [e, gv_last]
          omega
      · rw [List.map_append]
        have e : nD q.toNat = .int q := by
          unfold nD
          congr 1
          omega
        rw [List.map_cons, List.map_nil, e]
        rfl
    have two0 : 0 ≤ c % 2 := Int.emod_nonneg _ (by omega)
    have thr0 : 0 ≤ c % 3 := Int.emod_nonneg _ (by omega)
    have k0 : 0 ≤ c % ((k : Int) + 1) := Int.emod_nonneg _ (by omega)
    have k1 : c % ((k : Int) + 1) < (k : Int) + 1 := Int.emod_lt_of_pos _ (by omega)
    refine w_seq (w_if (bang (binI (vI rfl) cI e_qlt)) (fun _ => put (binI (vI rfl) (binI (vI rfl) cI e_add) (e_mod (by omega))) k0 (by omega)) fun _ => ?_)
    refine w_if (bang (binI (vI rfl) cI e_eq)) (fun _ => put (cbI2 cI (binI (vI rfl) (binI (vI rfl) cI (e_mod (by omega))) e_sub) n_max2) (by omega) (by omega)) fun _ => ?_
    have rest : wS (s_if (t_of (x_bin p_eq (x_var 2) (x_c (.int 4)))) (s_drop (x_app 3 (x_cb c_max2 (a_cons (x_c (.int 0)) (a_cons (x_bin p_sub (x_var 4) (x_bin p_mod (x_var 5) (x_c (.int 3)))) a_nil))))) (s_drop (x_app 3 (x_cb c_min2 (a_cons (x_var 4) (a_cons (x_bin p_mod (x_var 5) (x_c (.int 2))) a_nil))))))
        [im (lZ ns), im (nD many), im (.int m), ac (P.map nD), im (nD k), im (.int c)] (seqK s_nx (loopK (J (k + 1)) (seqK (s_seq (s_ret (x_cb c_tuple (a_cons (x_var 3) a_nil))) s_nx) (finK fun r => ∃ P : List Nat, r = .im (tN P) ∧ P.length = many ∧ Par (gv P) many)))) := by
      refine w_if (bang (binI (vI rfl) cI e_eq)) (fun _ => put (cbI2 cI (binI (vI rfl) (binI (vI rfl) cI (e_mod (by omega))) e_sub) n_max2) (by omega) (by omega)) fun _ => ?_
      exact put (cbI2 (vI rfl) (binI (vI rfl) cI (e_mod (by omega))) n_min2) (by omega) (by omega)
    have q3 : t_of (x_bin p_eq (x_var 2) (x_c (.int 3))) [im (lZ ns), im (nD many), im (.int m), ac (P.map nD), im (nD k), im (.int c)] = some (decide (m = 3), [im (lZ ns), im (nD many), im (.int m), ac (P.map nD), im (nD k), im (.int c)]) := bang (binI (vI rfl) cI e_eq)
    have q4 : t_of (x_bin q_gt (x_bin p_mod (x_var 5) (x_c (.int 7))) (x_c (.int 0))) [im (lZ ns), im (nD many), im (.int m), ac (P.map nD), im (nD k), im (.int c)] = some (decide (0 < c % 7), [im (lZ ns), im (nD many), im (.int m), ac (P.map nD), im (nD k), im (.int c)]) := bang (binI (binI (vI rfl) cI (e_mod (by omega))) cI e_qgt)
    by_cases h3 : m = 3
    · rw [decide_eq_true h3] at q3
      refine w_if (tandT q3 q4) (fun _ => put (vI rfl) (by omega) (Int.le_refl _)) fun _ => rest
    · rw [decide_eq_false h3] at q3
      exact w_ifF (tandF q3) rest
  · rw [hJ] at h
    obtain ⟨P, a, b, hP, par, rfl⟩ := h
    show wS _ _ _
    exact w_seq (w_ret (cbTv rfl) ⟨_, rfl, P, rfl, hP, par⟩)
end K15
namespace K15
open PySem PySem.Spec PyProof.Rows L2 DL
theorem gv_some {α : Type} [Inhabited α] {l : List α} {k : Nat} {x : α} (h : l[k]? = some x) : gv l (k + 1) = x := by
  have := gv_get (l := l) (k := k) (List.getElem?_eq_some_iff.mp h).1
  rw [h] at this
  exact (Option.some.inj this).symm
theorem v_any {ns : List Int} {many : Nat} {R : Int} (hl : many ≤ ns.length) (hm : many ≤ 100) (r1 : 1 ≤ R) (r2 : R ≤ 999) : ∃ r, F__law_any [lZ ns, nD many, .int R] = some r ∧ ∃ ws, r = .im (bD R ws) ∧ OkB many R ws := by
  refine w_def rfl ?_
  (first | refine w_seq (w_setF' ?_) | refine w_seq (w_set' ?_) | refine w_seq (w_drop' ?_) | refine w_seq (w_ret' ?_) | refine w_ret' ?_ | refine w_drop' ?_ | refine w_setF' ?_ | refine w_set' ?_) <;> simp [evs2, x_ix, and_assoc, okLen]
  obtain ⟨J, hJ⟩ : ∃ J : Nat → Ev → Prop, ∀ k e, J k e = (∃ (ws : List (Nat × Int)) (a b : Option Sl), OkB k R ws ∧ e = [im (lZ ns), im (nD many), im (.int R), ac (ws.map pD), a, b]) := ⟨fun k e => _, fun _ _ => rfl⟩
  refine w_seq (w_forN many nD J (iRng1 (vI rfl) (by omega)) (by rw [hJ]; exact ⟨[], none, none, ⟨r1, r2, rfl, fun x h => by simp at h⟩, rfl⟩) (fun k hk e h => ?_) fun e h => ?_)
  · rw [hJ] at h
    obtain ⟨ws, a, b, O, rfl⟩ := h
    refine ⟨rfl, _, rfl, ?_⟩
    show wS _ [im (lZ ns), im (nD many), im (.int R), ac (ws.map pD), im (nD k), b] _
    have ik := ixzL (f := PyData.int) (l := ns) (i := (k : Int)) (by omega) (by omega)
    generalize gv ns ((k : Int).toNat + 1) = c at ik
    refine w_seq (w_setI (d := .int c) (e1 := [im (lZ ns), im (nD many), im (.int R), ac (ws.map pD), im (nD k), b]) (cbInt (binI (vI rfl) (vI rfl) ik)) rfl ?_)
    show wS _ [im (lZ ns), im (nD many), im (.int R), ac (ws.map pD), im (nD k), im (.int c)] _
    have q0 : 0 ≤ c / 12 % 4 := Int.emod_nonneg _ (by omega)
    have q1 : c / 12 % 4 < 4 := Int.emod_lt_of_pos _ (by omega)
    have s0 : 0 ≤ c / 50 % R := Int.emod_nonneg _ (by omega)
    have s1 : c / 50 % R < R := Int.emod_lt_of_pos _ (by omega)
    have t0 : 0 ≤ c % 2 ∧ c % 2 < 2 := ⟨Int.emod_nonneg _ (by omega), Int.emod_lt_of_pos _ (by omega)⟩
    have t1 : 0 ≤ c % 3 ∧ c % 3 < 3 := ⟨Int.emod_nonneg _ (by omega), Int.emod_lt_of_pos _ (by omega)⟩
    have t2 : 0 ≤ c % 4 ∧ c % 4 < 4 := ⟨Int.emod_nonneg _ (by omega), Int.emod_lt_of_pos _ (by omega)⟩
    have ix := ixz (f := PyData.int) (l := [c % 2, c % 3, 0, c % 4]) (i := c / 12 % 4) q0 (by simpa using q1)
    obtain ⟨w, hw⟩ : ∃ w, w = gv [c % 2, c % 3, 0, c % 4] ((c / 12 % 4).toNat + 1) := ⟨_, rfl⟩
    have wm := gv_mem (l := [c % 2, c % 3, 0, c % 4]) (v := (c / 12 % 4).toNat + 1) (by omega) (by simp; omega)
    rw [← hw] at ix wm
    have w0 : 0 ≤ w ∧ w ≤ 3 := by
      simp only [List.mem_cons, List.not_mem_nil, or_false] at wm
      omega
    have el : x_tup (a_cons (x_bin p_add (x_c (.int 1)) (x_ix (x_tup (a_cons (x_bin p_mod (x_var 5) (x_c (.int 2))) (a_cons (x_bin p_mod (x_var 5) (x_c (.int 3))) (a_cons (x_c (.int 0)) (a_cons (x_bin p_mod (x_var 5) (x_c (.int 4))) a_nil))))) (x_bin p_mod (x_cb c_int (a_cons (x_bin p_div (x_var 5) (x_c (.int 12))) a_nil)) (x_c (.int 4))))) (a_cons (x_bin p_add (x_c (.int 1)) (x_bin p_mod (x_cb c_int (a_cons (x_bin p_div (x_var 5) (x_c (.int 50))) a_nil)) (x_var 2))) a_nil))
        [im (lZ ns), im (nD many), im (.int R), ac (ws.map pD), im (nD k), im (.int c)] = some (.im (.tuple [.int (1 + w), .int (1 + c / 50 % R)]), [im (lZ ns), im (nD many), im (.int R), ac (ws.map pD), im (nD k), im (.int c)]) := by
      refine tupI (aI (binI cI (binI (tupI (aI (binI (vI rfl) cI (e_mod (by omega))) (aI (binI (vI rfl) cI (e_mod (by omega))) (aI cI (aI (binI (vI rfl) cI (e_mod (by omega))) a0)))) (by simp)) (binI (cbInt (binI (vI rfl) cI (e_div (by omega) (by omega)))) cI (e_mod (by omega))) ix) e_add) (aI (binI cI (binI (cbInt (binI (vI rfl) cI (e_div (by omega) (by omega)))) (vI rfl) (e_mod (by omega))) e_add) a0)) (by simp)
    refine w_seq (w_app el rfl (by rw [List.length_map, O.len]; omega) ?_)
    show wS s_nx _ _
    refine w_nx ?_
    show J (k + 1) _
    rw [hJ]
    refine ⟨ws ++ [((1 + w).toNat, 1 + c / 50 % R)], im (nD k), im (.int c), ⟨r1, r2, by rw [List.length_append, O.len]; rfl, fun x hx => ?_⟩, ?_⟩
    · rcases List.mem_append.mp hx with z | z
      · exact O.all x z
      · rw [List.mem_singleton.mp z]
        dsimp only
        omega
    · have e : pD ((1 + w).toNat, 1 + c / 50 % R) = .tuple [.int (1 + w), .int (1 + c / 50 % R)] := by
        unfold pD nD
        dsimp only
        rw [show (((1 + w).toNat : Nat) : Int) = 1 + w by omega]
      rw [List.map_append, List.map_cons, List.map_nil, e]
      rfl
  · rw [hJ] at h
    obtain ⟨ws, a, b, O, rfl⟩ := h
    show wS _ [im (lZ ns), im (nD many), im (.int R), ac (ws.map pD), a, b] _
    exact w_seq (w_ret (r := .im (bD R ws)) (tupI (aI (vI rfl) (aI (cbTv rfl) a0)) (by simp)) ⟨_, rfl, ws, rfl, O⟩)
/-! ### alike with itself -/
def Gd : Nat → PyData → Prop
  | 0, _ => False
  | _ + 1, .int _ => True
  | _ + 1, .bool _ => True
  | N + 1, .tuple ds => ds.length ≤ 1000 ∧ ∀ d ∈ ds, Gd N d
  | _ + 1, _ => False
instance : Inhabited PyData := ⟨.none⟩
theorem p_eqI (i : Int) : p_eq (.int i) (.int i) = some (.im (.bool true)) := by rw [e_eq, decide_eq_true rfl]
theorem same_refl : ∀ N d, Gd N d → R__law_same N [d, d] = some (.im (.bool true))
  | 0, _, h => h.elim
  | N + 1, .int i, _ => by
    refine w_eq rfl ?_
    refine w_seq (w_ifF (e1 := [im (.int i), im (.int i), none]) (by simp [evs2, x_ix, and_assoc]) (w_nx ?_))
    refine w_seq (w_ifF (e1 := [im (.int i), im (.int i), none]) (by simp [evs2, x_ix, and_assoc]) (w_nx ?_))
    exact w_seq (w_ret (r := .im (.bool true)) (e1 := [im (.int i), im (.int i), none]) (by simp [evs2, x_ix, and_assoc]) ⟨_, rfl, rfl⟩)
  | N + 1, .bool b, _ => by
    refine w_eq rfl ?_
    refine w_seq (w_ifF (e1 := [im (.bool b), im (.bool b), none]) (by simp [evs2, x_ix, and_assoc]) (w_nx ?_))
    exact w_seq (w_ifT (e1 := [im (.bool b), im (.bool b), none]) (by simp [evs2, x_ix, and_assoc]) (w_ret (r := .im (.bool true)) (e1 := [im (.bool b), im (.bool b), none]) (by simp [evs2, x_ix, and_assoc]) ⟨_, rfl, rfl⟩))
  | N + 1, .tuple ds, h => by
    obtain ⟨hl, hd⟩ := h
    refine w_eq rfl ?_
    refine w_seq (w_ifT (e1 := [im (.tuple ds), im (.tuple ds), none]) (by simp [evs2, x_ix, and_assoc]) ?_)
    refine w_seq (w_ifF (e1 := [im (.tuple ds), im (.tuple ds), none]) (by simp [evs2, x_ix, and_assoc]) (w_nx ?_))
    have hd2 : ds = ds.map id := (List.map_id ds).symm
    obtain ⟨J, hJ⟩ : ∃ J : Nat → Ev → Prop, ∀ k e, J k e = ∃ a, e = [im (.tuple ds), im (.tuple ds), a] := ⟨fun k e => _, fun _ _ => rfl⟩
    refine w_seq (w_forN ds.length nD J (iRng1 (cbLen (.inr (.inr (vI rfl)))) (by omega)) (by rw [hJ]; exact ⟨none, rfl⟩) (fun k hk e h => ?_) fun e h => ?_)
    · rw [hJ] at h
      obtain ⟨a, rfl⟩ := h
      refine ⟨rfl, _, rfl, ?_⟩
      show wS _ [im (.tuple ds), im (.tuple ds), im (nD k)] _
      have g : ds[k]? = some (ds[k]'hk) := List.getElem?_eq_getElem hk
      have ix : p_ix (.tuple ds) (nD k) = some (.im (ds[k]'hk)) := e_ixT g
      have ih := same_refl N (ds[k]'hk) (hd _ (List.getElem_mem hk))
      refine w_ifF (tnot (b := true) (bang (callI (aI (binI (vI rfl) (vI rfl) ix) (aI (binI (vI rfl) (vI rfl) ix) a0)) rfl ih))) (w_nx ?_)
      show J (k + 1) _
      rw [hJ]
      exact ⟨_, rfl⟩
    · rw [hJ] at h
      obtain ⟨a, rfl⟩ := h
      show wS _ _ _
      exact w_seq (w_ret (r := .im (.bool true)) cI ⟨_, rfl, rfl⟩)
theorem v_same {d : PyData} (h : Gd 8 d) : F__law_same [d, d] = some (.im (.bool true)) := same_refl 8 d h
theorem gd_ints {N : Nat} {l : List Int} (h : l.length ≤ 1000) : Gd (N + 2) (tZ l) := ⟨by rw [List.length_map]; exact h, fun d hd => by
  obtain ⟨i, _, rfl⟩ := List.mem_map.mp hd
  exact True.intro⟩
end K15
namespace K15
open PySem PySem.Spec PyProof.Rows L2 DL
/-! ### the law's open row -/
theorem opL_split {p : Nat → Nat} {h : Nat → Int} {n v : Nat} (hv : v ≤ n + 1) : opL p h n v = ((List.range (n + 1 - v)).map (v + ·)).filter fun z => op p h v (h z) z := by
  unfold opL
  have sp : List.range (n + 1) = List.range v ++ (List.range (n + 1 - v)).map (v + ·) := by
    have := List.range_add (n := v) (m := n + 1 - v)
    rw [show v + (n + 1 - v) = n + 1 by omega] at this
    exact this
  rw [sp, List.filter_append]
  have e1 : (List.range v).filter (fun z => decide (v ≤ z) && op p h v (h z) z) = [] := by
    refine List.filter_eq_nil_iff.mpr fun z hz => ?_
    have := List.mem_range.mp hz
    simp
    omega
  rw [e1, List.nil_append]
  refine List.filter_congr fun z hz => ?_
  obtain ⟨k, _, rfl⟩ := List.mem_map.mp hz
  simp
section
variable {P : List Nat} {hs : List Int} {v first : Nat} (hp : Par (gv P) P.length) (few : P.length ≤ 100) (h1 : 1 ≤ first) (h2 : first ≤ v) (h3 : v ≤ P.length) (hl : hs.length + first = P.length + 1)

include hp few h1 h2 h3 hl
theorem v_lopen : F__law_open_row [tN P, tZ hs, nD v, nD first] = some (.im (tZ (openRow (gv P) (hF hs first) P.length v))) := by
  have ixh : ∀ z : Nat, first ≤ z → z ≤ P.length → p_ix (tZ hs) (.int ((z : Int) - (first : Int))) = some (.im (.int (hF hs first z))) := fun z z1 z2 => by
    have q := ixz (f := PyData.int) (l := hs) (i := (z : Int) - (first : Int)) (by omega) (by omega)
    rw [show ((z : Int) - (first : Int)).toNat + 1 = z + 1 - first by omega] at q
    exact q
  refine w_eq rfl ?_
  (first | refine w_seq (w_setF' ?_) | refine w_seq (w_set' ?_) | refine w_seq (w_drop' ?_) | refine w_seq (w_ret' ?_) | refine w_ret' ?_ | refine w_drop' ?_ | refine w_setF' ?_ | refine w_set' ?_) <;> simp [evs2, x_ix, and_assoc, okLen]
  obtain ⟨J, hJ⟩ : ∃ J : Nat → Ev → Prop, ∀ k e, J k e = (∃ a b c : Option Sl, e = [im (tN P), im (tZ hs), im (nD v), im (nD first), ac (((((List.range k).map (v + ·)).filter fun z => op (gv P) (hF hs first) v (hF hs first z) z).map (hF hs first)).map PyData.int), a, b, c]) := ⟨fun k e => _, fun _ _ => rfl⟩
  refine w_seq (w_forN (P.length + 1 - v) (fun k => nD (v + k)) J (iRngN (vI rfl) (binI (cbLen (.inr (.inr (vI rfl)))) cI (by rw [List.length_map]; exact e_add)) (by omega) (by omega)) (by rw [hJ]; exact ⟨none, none, none, rfl⟩) (fun k hk e h => ?_) fun e h => ?_)
  · rw [hJ] at h
    obtain ⟨a, b, c, rfl⟩ := h
    refine ⟨rfl, _, rfl, ?_⟩
    have z2 : v + k ≤ P.length := by omega
    have e1 : (List.range (k + 1)).map (v + ·) = (List.range k).map (v + ·) ++ [v + k] := by
      rw [List.range_succ, List.map_append]
      rfl
    generalize hz : v + k = z at z2 e1
    have z1 : v ≤ z := by omega
    obtain ⟨acc, hacc⟩ : ∃ acc, acc = ((((List.range k).map (v + ·)).filter fun z => op (gv P) (hF hs first) v (hF hs first z) z).map (hF hs first)) := ⟨_, rfl⟩
    have lacc : acc.length ≤ k := by
      rw [hacc, List.length_map]
      refine Nat.le_trans (List.length_filter_le _ _) ?_
      simp
    rw [← hacc]
    show wS _ [im (tN P), im (tZ hs), im (nD v), im (nD first), ac (acc.map PyData.int), im (nD z), b, c] _
    refine w_seq (w_setI (x := x_var 5) (vI rfl) rfl ?_)
    show wS _ [im (tN P), im (tZ hs), im (nD v), im (nD first), ac (acc.map PyData.int), im (nD z), im (nD z), c] _
    refine w_seq (w_setI (binI (vI rfl) (binI (vI rfl) (vI rfl) e_sub) (ixh z (by omega) z2)) rfl ?_)
    obtain ⟨t, ht⟩ : ∃ t, t = hF hs first z := ⟨_, rfl⟩
    rw [← ht]
    show wS _ [im (tN P), im (tZ hs), im (nD v), im (nD first), ac (acc.map PyData.int), im (nD z), im (nD z), im (.int t)] _
    have fin : ∀ u, v ≤ u → u ≤ P.length → (u = v ↔ op (gv P) (hF hs first) v t z = true) → wS (s_seq (s_if (t_of (x_bin p_eq (x_var 6) (x_var 2))) (s_drop (x_app 4 (x_var 7))) s_nx) s_nx) [im (tN P), im (tZ hs), im (nD v), im (nD first), ac (acc.map PyData.int), im (nD z), im (nD u), im (.int t)]
        (loopK (J (k + 1)) (seqK (s_seq (s_ret (x_cb c_tuple (a_cons (x_sortedR (a_cons (x_var 4) a_nil)) a_nil))) s_nx) (finK fun r => r = .im (tZ (openRow (gv P) (hF hs first) P.length v))))) := fun u u1 u2 hu => by
      have ec : ((u : Int) = (v : Int)) ↔ u = v := Int.ofNat_inj
      refine w_seq (w_if (bang (binI (vI rfl) (vI rfl) e_eq)) (fun hb => ?_) fun hb => ?_)
      · have o := hu.mp (ec.mp (of_decide_eq_true hb))
        refine w_app (vI rfl) rfl (by rw [List.length_map]; omega) ?_
        show wS s_nx _ _
        refine w_nx ?_
        show J (k + 1) _
        rw [hJ]
        refine ⟨im (nD z), im (nD u), im (.int t), ?_⟩
        rw [e1, List.filter_append, List.filter_cons_of_pos (by rw [← ht]; exact o), List.filter_nil, List.map_append, ← hacc, List.map_append, List.map_cons, List.map_nil, ← ht]
        rfl
      · have o : ¬ op (gv P) (hF hs first) v t z = true := fun y => of_decide_eq_false hb (ec.mpr (hu.mpr y))
        refine w_nx ?_
        show wS s_nx _ _
        refine w_nx ?_
        show J (k + 1) _
        rw [hJ]
        refine ⟨im (nD z), im (nD u), im (.int t), ?_⟩
        rw [e1, List.filter_append, List.filter_cons_of_neg (by rw [← ht]; exact o), List.filter_nil, List.append_nil, ← hacc]
    obtain ⟨Jw, hJw⟩ : ∃ Jw : Nat → Ev → Prop, ∀ m e, Jw m e = (∃ u, u ≤ m ∧ v ≤ u ∧ u ≤ P.length ∧ op (gv P) (hF hs first) v t u = op (gv P) (hF hs first) v t z ∧ e = [im (tN P), im (tZ hs), im (nD v), im (nD first), ac (acc.map PyData.int), im (nD z), im (nD u), im (.int t)]) := ⟨fun k e => _, fun _ _ => rfl⟩
    refine w_seq (w_while Jw z (by rw [hJw]; exact ⟨z, Nat.le_refl _, z1, z2, rfl, rfl⟩) (by show z < (z : Int).toNat + 1; omega) fun m e h => ?_)
    rw [hJw] at h
    obtain ⟨u, u0, u1, u2, u3, rfl⟩ := h
    have g1 : t_of (x_bin q_gt (x_var 6) (x_var 2)) [im (tN P), im (tZ hs), im (nD v), im (nD first), ac (acc.map PyData.int), im (nD z), im (nD u), im (.int t)] = some (decide ((v : Int) < u), [im (tN P), im (tZ hs), im (nD v), im (nD first), ac (acc.map PyData.int), im (nD z), im (nD u), im (.int t)]) := bang (binI (vI rfl) (vI rfl) e_qgt)
    by_cases c1 : v < u
    · have pu := hp u (by omega) u2
      have ixp : p_ix (tN P) (.int ((u : Int) - 1)) = some (.im (nD (gv P u))) := ixv (f := nD) (by omega) u2
      have g2 : t_of (x_bin q_ge (x_ix (x_var 0) (x_bin p_sub (x_var 6) (x_c (.int 1)))) (x_var 2)) [im (tN P), im (tZ hs), im (nD v), im (nD first), ac (acc.map PyData.int), im (nD z), im (nD u), im (.int t)] = some (decide ((v : Int) ≤ (gv P u : Nat)), [im (tN P), im (tZ hs), im (nD v), im (nD first), ac (acc.map PyData.int), im (nD z), im (nD u), im (.int t)]) :=
        bang (binI (binI (vI rfl) (binI (vI rfl) cI e_sub) ixp) (vI rfl) e_qge)
      rw [decide_eq_true (by omega : (v : Int) < u)] at g1
      have oe := op_eq hp (h := hF hs first) (v := v) (t := t) (u := u) (by omega) u2
      rw [show (u == v) = false by simp; omega, Bool.false_or, decide_eq_true c1, Bool.true_and] at oe
      by_cases c2 : v ≤ gv P u
      · rw [decide_eq_true (by omega : (v : Int) ≤ (gv P u : Nat))] at g2
        have g3 : t_of (x_bin q_le (x_ix (x_var 1) (x_bin p_sub (x_ix (x_var 0) (x_bin p_sub (x_var 6) (x_c (.int 1)))) (x_var 3))) (x_var 7)) [im (tN P), im (tZ hs), im (nD v), im (nD first), ac (acc.map PyData.int), im (nD z), im (nD u), im (.int t)] = some (decide (hF hs first (gv P u) ≤ t), [im (tN P), im (tZ hs), im (nD v), im (nD first), ac (acc.map PyData.int), im (nD z), im (nD u), im (.int t)]) :=
          bang (binI (binI (vI rfl) (binI (binI (vI rfl) (binI (vI rfl) cI e_sub) ixp) (vI rfl) e_sub) (ixh _ (by omega) (by omega))) (vI rfl) e_qle)
        refine ⟨_, _, tandT g1 (tandT g2 g3), fun hb => ?_, fun hb => ?_⟩
        · have nb := of_decide_eq_false hb
          rw [decide_eq_false nb, Bool.false_and] at oe
          refine fin u u1 u2 ⟨fun y => by omega, fun y => ?_⟩
          rw [← u3, oe] at y
          cases y
        · have yb := of_decide_eq_true hb
          rw [decide_eq_true yb, Bool.true_and] at oe
          obtain ⟨m', rfl⟩ : ∃ j, m = j + 1 := ⟨m - 1, by omega⟩
          refine ⟨m', rfl, w_setI (binI (vI rfl) (binI (vI rfl) cI e_sub) ixp) rfl ?_⟩
          show Jw m' _
          rw [hJw]
          exact ⟨gv P u, by omega, c2, by omega, by rw [← oe]; exact u3, rfl⟩
      · rw [decide_eq_false (by omega : ¬ (v : Int) ≤ (gv P u : Nat))] at g2
        refine ⟨_, _, tandT g1 (tandF g2), fun hb => ?_, fun hb => by cases hb⟩
        refine fin u u1 u2 ⟨fun y => by omega, fun y => ?_⟩
        rw [← u3, oe, Bool.and_eq_true] at y
        have := op_ge hp _ (by omega) y.2
        omega
    · rw [decide_eq_false (by omega : ¬ (v : Int) < u)] at g1
      refine ⟨_, _, tandF g1, fun hb => ?_, fun hb => by cases hb⟩
      have e : u = v := by omega
      refine fin u u1 u2 ⟨fun _ => ?_, fun _ => e⟩
      rw [← u3, e]
      exact op_self hp (by omega) h3
  · rw [hJ] at h
    obtain ⟨a, b, c, rfl⟩ := h
    rw [← opL_split (by omega)]
    show wS _ _ _
    have q : x_sortedR (a_cons (x_var 4) a_nil) [im (tN P), im (tZ hs), im (nD v), im (nD first), ac (((opL (gv P) (hF hs first) P.length v).map (hF hs first)).map PyData.int), a, b, c] = some (.ac ((openRow (gv P) (hF hs first) P.length v).map PyData.int), [im (tN P), im (tZ hs), im (nD v), im (nD first), ac (((opL (gv P) (hF hs first) P.length v).map (hF hs first)).map PyData.int), a, b, c]) := by
      rw [n_sR]
      exact cbV1 rfl n_intsL
    exact w_seq (w_ret (cbT q) ⟨_, rfl, rfl⟩)
end
end K15
namespace K15
open PySem PySem.Spec PyProof.Rows L2 DL
/-! ### the law's walk -/
theorem sh_max {w : Nat} {f : Int} {M : List Int} : sh w f M = if w ≤ M.length then max f (gv M w + 1) else f := by
  unfold sh
  by_cases h1 : w ≤ M.length
  · rw [if_pos h1]
    by_cases h2 : f ≤ gv M w
    · rw [if_pos ⟨h1, h2⟩]
      omega
    · rw [if_neg fun z => h2 z.2]
      omega
  · rw [if_neg h1, if_neg fun z => h1 z.1]
section
variable {P : List Nat} {R : Int} {ws : List (Nat × Int)} (O : OkP P R ws)
include O
theorem v_lwalk : F__law_walk [tN P, bD R ws] = some (.im (.tuple ((List.range P.length).map fun k => tZ (rowP P R ws (k + 1))))) := by
  have few := O.few
  have wl := O.b.len
  refine w_eq rfl ?_
  have lc := lcA (fi := i_rng1 (x_bin p_add (x_cb c_len (a_cons (x_var 0) a_nil)) (x_c (.int 1)))) (γ := g_name 4) (fe := x_lst a_nil) (vs := [4]) (e := [im (tN P), im (bD R ws), none, none, none, none, none, none, none, none]) (List.range (P.length + 1)) nD (fun _ => .list [])
    (iRng1 (m := P.length + 1) (binI (cbLen (.inr (.inr (vI rfl)))) cI (by rw [List.length_map]; exact e_add)) (by omega)) rfl (by rw [List.length_range]; omega) fun k _ => ⟨_, rfl, _, rfl, rfl, rfl⟩
  refine w_seq (w_setA lc rfl ?_)
  show wS _ [im (tN P), im (bD R ws), ac ((List.range (P.length + 1)).map fun _ => .list []), none, none, none, none, none, none, none] _
  refine w_seq (w_setA (x := x_lst a_nil) (ds := []) rfl rfl ?_)
  show wS _ [im (tN P), im (bD R ws), ac ((List.range (P.length + 1)).map fun _ => .list []), ac [], none, none, none, none, none, none] _
  have len0 : x_cb c_len (a_cons (x_var 0) a_nil) [im (tN P), im (bD R ws), ac ((List.range (P.length + 1)).map fun _ => .list []), ac [], none, none, none, none, none, none] = some (.im (.int (P.length : Int)), [im (tN P), im (bD R ws), ac ((List.range (P.length + 1)).map fun _ => .list []), ac [], none, none, none, none, none, none]) := by
    have q := cbLen (x := x_var 0) (e := [im (tN P), im (bD R ws), ac ((List.range (P.length + 1)).map fun _ => .list []), ac [], none, none, none, none, none, none]) (.inr (.inr (vI rfl)))
    rw [List.length_map] at q
    exact q
  obtain ⟨J, hJ⟩ : ∃ J : Nat → Ev → Prop, ∀ k e, J k e = (∃ a b c d f : Option Sl, e = [im (tN P), im (bD R ws), ac ((List.range (P.length + 1)).map fun u => lZ (blP P R ws k u)), ac ((List.range k).map fun j => tZ (rowP P R ws (P.length - j))), a, b, c, d, f, none]) := ⟨fun k e => _, fun _ _ => rfl⟩
  refine w_seq (w_forN P.length (fun k => nD (P.length - k)) J (iRngD (n := P.length) len0 cI (negI cI) (by omega)) (by rw [hJ]; exact ⟨none, none, none, none, none, rfl⟩) (fun k hk e h => ?_) fun e h => ?_)
  · rw [hJ] at h
    obtain ⟨a, b, c, d, f, rfl⟩ := h
    refine ⟨rfl, _, rfl, ?_⟩
    obtain ⟨v, hv⟩ : ∃ v, v = P.length - k := ⟨_, rfl⟩
    rw [← hv]
    have v1 : 1 ≤ v := by omega
    have v2 : v ≤ P.length := by omega
    have hk2 : P.length - v = k := by omega
    have pv := O.par v v1 v2
    have wv := O.w v1 v2
    obtain ⟨be, hbe⟩ : ∃ be, be = (List.range (P.length + 1)).map fun u => lZ (blP P R ws k u) := ⟨_, rfl⟩
    obtain ⟨rs, hrs⟩ : ∃ rs, rs = (List.range k).map fun j => tZ (rowP P R ws (P.length - j)) := ⟨_, rfl⟩
    have bat : ∀ u, u ≤ P.length → be[u]? = some (lZ (blP P R ws k u)) := fun u hu => by
      rw [hbe, List.getElem?_map, List.getElem?_range (by omega)]
      rfl
    have bl1 : be.length = P.length + 1 := by rw [hbe, List.length_map, List.length_range]
    rw [← hbe, ← hrs]
    obtain ⟨M, hM⟩ : ∃ M, M = downI (blP P R ws k v) := ⟨_, rfl⟩
    have lM : M.length ≤ 100000 := by
      rw [hM, downI_len]
      exact bl_few O (by omega) v
    show wS _ [im (tN P), im (bD R ws), ac be, ac rs, im (nD v), b, c, d, f, none] _
    -- members
    refine w_seq (w_setL (ds := M.map PyData.int) (e1 := [im (tN P), im (bD R ws), ac be, ac rs, im (nD v), b, c, d, f, none]) ?_ rfl ?_)
    · rw [n_sR, hM]
      refine cbI1 (d := lZ (blP P R ws k v)) (binV rfl (vI rfl) (e_ixL (j := v) (bat v v2))) n_intsL
    show wS _ [im (tN P), im (bD R ws), ac be, ac rs, im (nD v), im (lZ M), c, d, f, none] _
    have b0 : p_ix (bD R ws) (.int 0) = some (.im (.int R)) := rfl
    have b1 : p_ix (bD R ws) (.int 1) = some (.im (.tuple (ws.map pD))) := rfl
    have bw : p_ix (.tuple (ws.map pD)) (.int ((v : Int) - 1)) = some (.im (pD (gv ws v))) := ixv (f := pD) v1 (by omega)
    have x0 : p_ix (pD (gv ws v)) (.int 0) = some (.im (nD (gv ws v).1)) := rfl
    have x1 : p_ix (pD (gv ws v)) (.int 1) = some (.im (.int (gv ws v).2)) := rfl
    obtain ⟨w, hw⟩ : ∃ w, w = (gv ws v).1 := ⟨_, rfl⟩
    rw [← hw] at x0 wv
    refine w_seq (w_setI (d := nD w) (e1 := [im (tN P), im (bD R ws), ac be, ac rs, im (nD v), im (lZ M), c, d, f, none]) (binI (binI (binI (vI rfl) cI b1) (binI (vI rfl) cI e_sub) bw) cI x0) rfl ?_)
    show wS _ [im (tN P), im (bD R ws), ac be, ac rs, im (nD v), im (lZ M), im (nD w), d, f, none] _
    obtain ⟨fl, hfl⟩ : ∃ fl, fl = R + 1 - (gv ws v).2 := ⟨_, rfl⟩
    refine w_seq (w_setI (d := .int fl) (e1 := [im (tN P), im (bD R ws), ac be, ac rs, im (nD v), im (lZ M), im (nD w), d, f, none]) (binI (binI (binI (vI rfl) cI b0) cI e_add) (binI (binI (binI (vI rfl) cI b1) (binI (vI rfl) cI e_sub) bw) cI x1) (by rw [hfl]; exact e_sub)) rfl ?_)
    show wS _ [im (tN P), im (bD R ws), ac be, ac rs, im (nD v), im (lZ M), im (nD w), im (.int fl), f, none] _
    have hrow : srow w fl M = rowP P R ws v := by
      rw [hw, hfl, hM]
      show _ = rwo (Wf ws) (Ff R ws) v (bl (Wf ws) (Ff R ws) (gv P) P.length (P.length - v) v)
      rw [hk2]
      rfl
    -- the height
    refine w_seqE [im (tN P), im (bD R ws), ac be, ac rs, im (nD v), im (lZ M), im (nD w), im (.int (sh w fl M)), f, none] ?_ ?_
    · refine w_if (bang (binI (cbLen (.inr (.inl (vI rfl)))) (vI rfl) (by rw [List.length_map]; exact e_qge))) (fun hb => ?_) fun hb => ?_
      · have hb2 := of_decide_eq_true hb
        have hc : w ≤ M.length := by omega
        refine w_setI (d := .int (sh w fl M)) (e1 := [im (tN P), im (bD R ws), ac be, ac rs, im (nD v), im (lZ M), im (nD w), im (.int fl), f, none]) ?_ rfl rfl
        rw [sh_max, if_pos hc]
        exact cbI2 (vI rfl) (binI (binI (vI rfl) (binI (vI rfl) cI e_sub) (ixvL (f := PyData.int) wv.1 hc)) cI e_add) n_max2
      · have hb2 := of_decide_eq_false hb
        refine w_nx ?_
        rw [sh_max, if_neg (by omega)]
    -- the row
    have lr : (rowP P R ws v).length ≤ 100001 := by
      rw [← hrow]
      unfold srow
      rw [List.length_append]
      have := List.length_filter_le (fun m => decide (sh w fl M ≤ m)) M
      simp only [List.length_cons, List.length_nil]
      omega
    have lc2 := lcT (fi := i_seq (x_var 5)) (γ := g_name 9) (tst := t_of (x_bin q_ge (x_var 9) (x_var 7))) (fe := x_var 9) (vs := [9]) (e := [im (tN P), im (bD R ws), ac be, ac rs, im (nD v), im (lZ M), im (nD w), im (.int (sh w fl M)), f, none]) M PyData.int (fun m => decide (sh w fl M ≤ m)) PyData.int
      (iseqL (vI rfl)) rfl (by omega) fun m _ => ⟨_, rfl, _, bang (binI (vI rfl) (vI rfl) e_qge), rfl, fun _ => ⟨_, vI rfl, rfl, rfl⟩⟩
    refine w_seq (w_setL (ds := (rowP P R ws v).map PyData.int) (e1 := [im (tN P), im (bD R ws), ac be, ac rs, im (nD v), im (lZ M), im (nD w), im (.int (sh w fl M)), f, none]) ?_ rfl ?_)
    · have hr2 := hrow
      unfold srow at hr2
      have len2 := congrArg List.length hr2
      refine binAA lc2 (cs := [.int (sh w fl M)]) (e2 := [im (tN P), im (bD R ws), ac be, ac rs, im (nD v), im (lZ M), im (nD w), im (.int (sh w fl M)), f, none]) rfl ?_
      rw [← hr2, List.map_append]
      refine e_cat ?_
      rw [List.length_append] at len2
      rw [List.length_map]
      simp only [List.length_cons, List.length_nil] at len2 ⊢
      omega
    show wS _ [im (tN P), im (bD R ws), ac be, ac rs, im (nD v), im (lZ M), im (nD w), im (.int (sh w fl M)), im (lZ (rowP P R ws v)), none] _
    refine w_seq (w_app (d := tZ (rowP P R ws v)) (cbTi (d := .none) (vI rfl)) rfl (by rw [hrs, List.length_map, List.length_range]; omega) ?_)
    show wS _ [im (tN P), im (bD R ws), ac be, ac (rs ++ [tZ (rowP P R ws v)]), im (nD v), im (lZ M), im (nD w), im (.int (sh w fl M)), im (lZ (rowP P R ws v)), none] _
    have ixp : p_ix (tN P) (.int ((v : Int) - 1)) = some (.im (nD (gv P v))) := ixv (f := nD) v1 v2
    have lb := bl_few O (k := k) (by omega) (gv P v)
    refine w_seq (w_put' ⟨(.ac ((blP P R ws k (gv P v)).map PyData.int ++ (rowP P R ws v).map PyData.int), [im (tN P), im (bD R ws), ac be, ac (rs ++ [tZ (rowP P R ws v)]), im (nD v), im (lZ M), im (nD w), im (.int (sh w fl M)), im (lZ (rowP P R ws v)), none]), ?_, rfl, _, rfl, ((gv P v : Nat) : Int), _, binI (vI rfl) (binI (vI rfl) cI e_sub) ixp, be, rfl, gv P v, ixN_nat (by omega), ?_⟩)
    · exact binI (binV rfl (binI (vI rfl) (binI (vI rfl) cI e_sub) ixp) (e_ixL (j := gv P v) (bat _ (by omega)))) (vI rfl) (e_cat (by rw [List.length_map, List.length_map]; omega))
    · show wS s_nx _ _
      refine w_nx ?_
      show J (k + 1) _
      rw [hJ]
      have e1 : be.set (gv P v) (.list ((blP P R ws k (gv P v)).map PyData.int ++ (rowP P R ws v).map PyData.int)) = (List.range (P.length + 1)).map fun u => lZ (blP P R ws (k + 1) u) := by
        refine List.ext_getElem? fun u => ?_
        rw [set_get, bl1, List.getElem?_map]
        have step : blP P R ws (k + 1) u = if u = gv P v then blP P R ws k u ++ rowP P R ws v else blP P R ws k u := by
          show bl (Wf ws) (Ff R ws) (gv P) P.length (k + 1) u = _
          rw [bl_succ, ← hv]
          have e : rwo (Wf ws) (Ff R ws) v (bl (Wf ws) (Ff R ws) (gv P) P.length k v) = rowP P R ws v := by
            show _ = rwo (Wf ws) (Ff R ws) v (bl (Wf ws) (Ff R ws) (gv P) P.length (P.length - v) v)
            rw [hk2]
          rw [e]
        by_cases u1 : u < P.length + 1
        · rw [List.getElem?_range u1]
          by_cases u2 : gv P v = u
          · rw [if_pos ⟨u2, u1⟩]
            show _ = some (lZ (blP P R ws (k + 1) u))
            rw [step, if_pos u2.symm, u2, ← List.map_append]
          · rw [if_neg fun z => u2 z.1, bat u (by omega)]
            show _ = some (lZ (blP P R ws (k + 1) u))
            rw [step, if_neg fun z => u2 z.symm]
        · have z : (List.range (P.length + 1))[u]? = none := List.getElem?_eq_none (by rw [List.length_range]; omega)
          rw [z, if_neg fun y => u1 y.2, List.getElem?_eq_none (by omega)]
          rfl
      have e2 : (List.range (k + 1)).map (fun j => tZ (rowP P R ws (P.length - j))) = rs ++ [tZ (rowP P R ws v)] := by
        rw [List.range_succ, List.map_append, ← hrs, hv]
        rfl
      rw [← e1, e2]
      exact ⟨_, _, _, _, _, rfl⟩
  · rw [hJ] at h
    obtain ⟨a, b, c, d, f, rfl⟩ := h
    show wS _ _ _
    have z := rev_range (fun v => tZ (rowP P R ws v)) P.length
    have z2 : ((List.range P.length).map fun k => tZ (rowP P R ws (P.length - k))).reverse = (List.range P.length).map fun k => tZ (rowP P R ws (k + 1)) := by
      rw [← z, List.reverse_reverse]
    have q : ∀ be : List PyData, x_rvs (x_var 3) [im (tN P), im (bD R ws), ac be, ac ((List.range P.length).map fun k => tZ (rowP P R ws (P.length - k))), a, b, c, d, f, none] = some (.ac ((List.range P.length).map fun k => tZ (rowP P R ws (k + 1))), [im (tN P), im (bD R ws), ac be, ac ((List.range P.length).map fun k => tZ (rowP P R ws (P.length - k))), a, b, c, d, f, none]) := fun be => by
      rw [r_x_rvs]
      show some (Rs.ac ((List.range P.length).map fun k => tZ (rowP P R ws (P.length - k))).reverse, _) = _
      rw [z2]
    exact w_seq (w_ret (cbT (q _)) ⟨_, rfl, rfl⟩)
end
end K15
namespace K15
open PySem PySem.Spec PyProof.Rows L2 DL
/-! ### the law's list of all heights -/
abbrev enS (s : St') : PyData := .tuple [tZ s.1, .tuple (s.2.map tZ)]
theorem iRngZ {x y : Fe} {e e1 e2 : Ev} {a b : Int} (h1 : x e = some (.im (.int a), e1)) (h2 : y e1 = some (.im (.int b), e2)) (ha : rgC a = true) (hb : rgC b = true) : i_rng2 x y e = some ((List.range (b - a).toNat).map fun (k : Nat) => PyData.int (a + (k : Int)), e2) := by
  rw [r_i_rng2, h1]
  dsimp only
  rw [h2]
  dsimp only
  have c : (rgC a && rgC b) = true := by rw [ha, hb]; rfl
  have e3 : rngD a (b - a).toNat 1 = (List.range (b - a).toNat).map fun (k : Nat) => PyData.int (a + (k : Int)) := by
    unfold rngD
    refine List.map_congr_left fun k _ => ?_
    rw [Int.mul_one]
  rw [if_pos c, e3]
section
variable {P : List Nat} {R most : Int} {ws : List (Nat × Int)} (O : OkP P R ws) (n5 : P.length ≤ 5) (m5 : most ≤ 5) (m0 : 0 ≤ most)
abbrev sttP (P : List Nat) (R : Int) (ws : List (Nat × Int)) (most : Int) : Nat → List St' := stt (gv P) (Wf ws) (Ff R ws) P.length most
abbrev growP (P : List Nat) (ws : List (Nat × Int)) : Nat → St' → Int → Option St' := grow (gv P) (Wf ws) P.length
include O n5 m5 m0
theorem F1 {v : Nat} (h1 : 1 ≤ v) (h2 : v ≤ P.length) : 1 ≤ Ff R ws v ∧ Ff R ws v ≤ 999 := by
  have a := O.b.all _ (gv_mem (l := ws) h1 (by rw [O.b.len]; exact h2))
  have b := O.b.r2
  show 1 ≤ R + 1 - (gv ws v).2 ∧ R + 1 - (gv ws v).2 ≤ 999
  omega
theorem stt_few {k : Nat} (hk : k ≤ P.length) : (sttP P R ws most k).length ≤ 3125 := by
  have a := stt_len (p := gv P) (W := Wf ws) (F := Ff R ws) (n := P.length) (most := most) (fun v h1 h2 => (F1 O n5 m5 m0 h1 h2).1) m5 k hk
  refine Nat.le_trans a (Nat.le_trans (Nat.pow_le_pow_right (by omega) (by omega : k ≤ 5)) (by decide))
theorem v_lheights : F__law_heights [tN P, bD R ws, .int most] = some (.im (.list ((sttP P R ws most P.length).map enS))) := by
  have few := O.few
  have wl := O.b.len
  refine w_eq rfl ?_
  refine w_seq (w_setL (x := x_lst (a_cons (x_tup (a_cons (x_tup a_nil) (a_cons (x_tup a_nil) a_nil))) a_nil)) (ds := [.tuple [.tuple [], .tuple []]]) rfl rfl ?_)
  show wS _ [im (tN P), im (bD R ws), im (.int most), im (.list ((sttP P R ws most 0).map enS)), none, none, none, none, none, none, none, none] _
  have len0 : x_cb c_len (a_cons (x_var 0) a_nil) [im (tN P), im (bD R ws), im (.int most), im (.list ((sttP P R ws most 0).map enS)), none, none, none, none, none, none, none, none] = some (.im (.int (P.length : Int)), [im (tN P), im (bD R ws), im (.int most), im (.list ((sttP P R ws most 0).map enS)), none, none, none, none, none, none, none, none]) := by
    have q := cbLen (x := x_var 0) (e := [im (tN P), im (bD R ws), im (.int most), im (.list ((sttP P R ws most 0).map enS)), none, none, none, none, none, none, none, none]) (.inr (.inr (vI rfl)))
    rw [List.length_map] at q
    exact q
  obtain ⟨J, hJ⟩ : ∃ J : Nat → Ev → Prop, ∀ k e, J k e = (∃ a b c d f g h i : Option Sl, e = [im (tN P), im (bD R ws), im (.int most), im (.list ((sttP P R ws most k).map enS)), a, b, c, d, f, g, h, i]) := ⟨fun k e => _, fun _ _ => rfl⟩
  refine w_seq (w_forN P.length (fun k => nD (P.length - k)) J (iRngD (n := P.length) len0 cI (negI cI) (by omega)) (by rw [hJ]; exact ⟨none, none, none, none, none, none, none, none, rfl⟩) (fun k hk e h => ?_) fun e h => ?_)
  · rw [hJ] at h
    obtain ⟨a, b, c, d, f, g, h, i, rfl⟩ := h
    refine ⟨rfl, _, rfl, ?_⟩
    obtain ⟨v, hv⟩ : ∃ v, v = P.length - k := ⟨_, rfl⟩
    rw [← hv]
    have v1 : 1 ≤ v := by omega
    have v2 : v ≤ P.length := by omega
    obtain ⟨sl, hsl⟩ : ∃ sl, sl = sttP P R ws most k := ⟨_, rfl⟩
    have lsl : sl.length ≤ 3125 := by rw [hsl]; exact stt_few O n5 m5 m0 (by omega)
    have sl1 : ∀ s ∈ sl, s.1.length = k := fun s hs => by
      rw [hsl] at hs
      obtain ⟨hh, rfl, _⟩ := (mem_stt O.par k (by omega) s).mp hs
      show (hl hh P.length (P.length + 1 - k)).length = k
      unfold hl
      rw [List.length_map, List.length_range]
      omega
    have sl2 : ∀ s ∈ sl, s.2.length = k := fun s hs => by
      rw [hsl] at hs
      obtain ⟨hh, rfl, _⟩ := (mem_stt O.par k (by omega) s).mp hs
      show (rl (gv P) hh P.length (P.length + 1 - k)).length = k
      unfold rl
      rw [List.length_map, List.length_range]
      omega
    rw [← hsl]
    show wS _ [im (tN P), im (bD R ws), im (.int most), im (.list (sl.map enS)), im (nD v), b, c, d, f, g, h, i] _
    have b0 : p_ix (bD R ws) (.int 0) = some (.im (.int R)) := rfl
    have b1 : p_ix (bD R ws) (.int 1) = some (.im (.tuple (ws.map pD))) := rfl
    have bw : p_ix (.tuple (ws.map pD)) (.int ((v : Int) - 1)) = some (.im (pD (gv ws v))) := ixv (f := pD) v1 (by omega)
    have x0 : p_ix (pD (gv ws v)) (.int 0) = some (.im (nD (gv ws v).1)) := rfl
    have x1 : p_ix (pD (gv ws v)) (.int 1) = some (.im (.int (gv ws v).2)) := rfl
    obtain ⟨w, hw⟩ : ∃ w, w = (gv ws v).1 := ⟨_, rfl⟩
    rw [← hw] at x0
    refine w_seq (w_setI (d := nD w) (e1 := [im (tN P), im (bD R ws), im (.int most), im (.list (sl.map enS)), im (nD v), b, c, d, f, g, h, i]) (binI (binI (binI (vI rfl) cI b1) (binI (vI rfl) cI e_sub) bw) cI x0) rfl ?_)
    show wS _ [im (tN P), im (bD R ws), im (.int most), im (.list (sl.map enS)), im (nD v), im (nD w), c, d, f, g, h, i] _
    obtain ⟨fl, hfl⟩ : ∃ fl, fl = R + 1 - (gv ws v).2 := ⟨_, rfl⟩
    have fl1 : 1 ≤ fl ∧ fl ≤ 999 := by rw [hfl]; exact F1 O n5 m5 m0 v1 v2
    refine w_seq (w_setI (d := .int fl) (e1 := [im (tN P), im (bD R ws), im (.int most), im (.list (sl.map enS)), im (nD v), im (nD w), c, d, f, g, h, i]) (binI (binI (binI (vI rfl) cI b0) cI e_add) (binI (binI (binI (vI rfl) cI b1) (binI (vI rfl) cI e_sub) bw) cI x1) (by rw [hfl]; exact e_sub)) rfl ?_)
    show wS _ [im (tN P), im (bD R ws), im (.int most), im (.list (sl.map enS)), im (nD v), im (nD w), im (.int fl), d, f, g, h, i] _
    refine w_seq (w_setA (x := x_lst a_nil) (ds := []) rfl rfl ?_)
    show wS _ [im (tN P), im (bD R ws), im (.int most), im (.list (sl.map enS)), im (nD v), im (nD w), im (.int fl), ac [], f, g, h, i] _
    obtain ⟨up, hup⟩ : ∃ up, up = (most + 1 - fl).toNat := ⟨_, rfl⟩
    have up5 : up ≤ 5 := by omega
    obtain ⟨gs, hgs⟩ : ∃ gs : St' → List St', ∀ s, gs s = ((List.range up).map fun (k : Nat) => fl + (k : Int)).filterMap (growP P ws v s) := ⟨fun s => _, fun _ => rfl⟩
    have gs5 : ∀ s, (gs s).length ≤ 5 := fun s => by
      rw [hgs]
      refine Nat.le_trans (List.length_filterMap_le _ _) ?_
      rw [List.length_map, List.length_range]
      exact up5
    obtain ⟨J2, hJ2⟩ : ∃ J2 : Nat → Ev → Prop, ∀ j e, J2 j e = (∃ f g h i : Option Sl, e = [im (tN P), im (bD R ws), im (.int most), im (.list (sl.map enS)), im (nD v), im (nD w), im (.int fl), ac (((sl.take j).flatMap gs).map enS), f, g, h, i]) := ⟨fun k e => _, fun _ _ => rfl⟩
    refine w_seq (w_forL sl enS J2 (iseqA (cbI1 (vI rfl) n_list0)) (by rw [hJ2]; exact ⟨f, g, h, i, rfl⟩) (fun j hj e h => ?_) fun e h => ?_)
    · rw [hJ2] at h
      obtain ⟨f, g, h, i, rfl⟩ := h
      refine ⟨rfl, _, rfl, ?_⟩
      obtain ⟨s, hs⟩ : ∃ s, s = gv sl (j + 1) := ⟨_, rfl⟩
      have sm : s ∈ sl := by rw [hs]; exact gv_mem (by omega) (by omega)
      obtain ⟨base, hbase⟩ : ∃ base, base = (sl.take j).flatMap gs := ⟨_, rfl⟩
      have lb : base.length ≤ 5 * 3125 := by
        rw [hbase]
        refine Nat.le_trans (fl_len (m := 5) fun s _ => gs5 s) ?_
        rw [List.length_take]
        omega
      have tk : (sl.take (j + 1)).flatMap gs = base ++ gs s := by
        rw [List.take_succ, List.flatMap_append, ← hbase, gv_get hj, ← hs]
        simp
      rw [← hbase, ← hs]
      show wS _ [im (tN P), im (bD R ws), im (.int most), im (.list (sl.map enS)), im (nD v), im (nD w), im (.int fl), ac (base.map enS), im (enS s), g, h, i] _
      obtain ⟨J3, hJ3⟩ : ∃ J3 : Nat → Ev → Prop, ∀ q e, J3 q e = (∃ g h i : Option Sl, e = [im (tN P), im (bD R ws), im (.int most), im (.list (sl.map enS)), im (nD v), im (nD w), im (.int fl), ac ((base ++ ((List.range q).map fun (k : Nat) => fl + (k : Int)).filterMap (growP P ws v s)).map enS), im (enS s), g, h, i]) := ⟨fun k e => _, fun _ _ => rfl⟩
      refine w_forN up (fun (k : Nat) => PyData.int (fl + (k : Int))) J3 (by rw [hup]; exact iRngZ (vI rfl) (binI (vI rfl) cI e_add) (decide_eq_true (by omega)) (decide_eq_true (by omega))) (by rw [hJ3]; exact ⟨g, h, i, by rw [List.range_zero, List.map_nil, List.filterMap_nil, List.append_nil]⟩) (fun q hq e h => ?_) fun e h => ?_
      · rw [hJ3] at h
        obtain ⟨g, h, i, rfl⟩ := h
        refine ⟨rfl, _, rfl, ?_⟩
        obtain ⟨t, ht⟩ : ∃ t, t = fl + (q : Int) := ⟨_, rfl⟩
        obtain ⟨acc, hacc⟩ : ∃ acc, acc = base ++ ((List.range q).map fun (k : Nat) => fl + (k : Int)).filterMap (growP P ws v s) := ⟨_, rfl⟩
        have la : acc.length ≤ 5 * 3125 + 5 := by
          rw [hacc, List.length_append]
          have := List.length_filterMap_le (growP P ws v s) ((List.range q).map fun (k : Nat) => fl + (k : Int))
          rw [List.length_map, List.length_range] at this
          omega
        have step : base ++ ((List.range (q + 1)).map fun (k : Nat) => fl + (k : Int)).filterMap (growP P ws v s) = acc ++ (growP P ws v s t).toList := by
          rw [List.range_succ, List.map_append, List.filterMap_append, hacc, List.append_assoc, ht]
          simp only [List.map_cons, List.map_nil, List.filterMap_cons, List.filterMap_nil]
          cases growP P ws v s (fl + (q : Int)) <;> rfl
        rw [← hacc, ← ht]
        show wS _ [im (tN P), im (bD R ws), im (.int most), im (.list (sl.map enS)), im (nD v), im (nD w), im (.int fl), ac (acc.map enS), im (enS s), im (.int t), h, i] _
        have i0 : p_ix (enS s) (.int 0) = some (.im (tZ s.1)) := rfl
        have i1 : p_ix (enS s) (.int 1) = some (.im (.tuple (s.2.map tZ))) := rfl
        have k1 := sl1 s sm
        have k2 := sl2 s sm
        refine w_seq (w_setI (d := tZ (t :: s.1)) (e1 := [im (tN P), im (bD R ws), im (.int most), im (.list (sl.map enS)), im (nD v), im (nD w), im (.int fl), ac (acc.map enS), im (enS s), im (.int t), h, i]) (binI (tupI (aI (vI rfl) a0) (by simp)) (binI (vI rfl) cI i0) (e_catT (a := [.int t]) (b := s.1.map PyData.int) (by simp; omega))) rfl ?_)
        show wS _ [im (tN P), im (bD R ws), im (.int most), im (.list (sl.map enS)), im (nD v), im (nD w), im (.int fl), ac (acc.map enS), im (enS s), im (.int t), im (tZ (t :: s.1)), i] _
        have lo := v_lopen (P := P) (hs := t :: s.1) (v := v) (first := v) O.par few v1 (Nat.le_refl _) v2 (by rw [List.length_cons, k1]; omega)
        obtain ⟨rw_, hrw⟩ : ∃ r, r = openRow (gv P) (hF (t :: s.1) v) P.length v := ⟨_, rfl⟩
        rw [← hrw] at lo
        refine w_seq (w_setI (d := tZ rw_) (e1 := [im (tN P), im (bD R ws), im (.int most), im (.list (sl.map enS)), im (nD v), im (nD w), im (.int fl), ac (acc.map enS), im (enS s), im (.int t), im (tZ (t :: s.1)), i]) (callI (aI (vI rfl) (aI (vI rfl) (aI (vI rfl) (aI (vI rfl) a0)))) rfl lo) rfl ?_)
        show wS _ [im (tN P), im (bD R ws), im (.int most), im (.list (sl.map enS)), im (nD v), im (nD w), im (.int fl), ac (acc.map enS), im (enS s), im (.int t), im (tZ (t :: s.1)), im (tZ rw_)] _
        have gr : growP P ws v s t = if rw_.length ≤ w then some (t :: s.1, rw_ :: s.2) else none := by
          show grow (gv P) (Wf ws) P.length v s t = _
          unfold grow
          rw [← hrw, hw]
        refine w_seq (w_if (bang (binI (cbLen (.inr (.inr (vI rfl)))) (vI rfl) (by rw [List.length_map]; exact e_qle))) (fun hb => ?_) fun hb => ?_)
        · have hb2 := of_decide_eq_true hb
          refine w_app (d := enS (t :: s.1, rw_ :: s.2)) (tupI (aI (vI rfl) (aI (binI (tupI (aI (vI rfl) a0) (by simp)) (binI (vI rfl) cI i1) (e_catT (a := [tZ rw_]) (b := s.2.map tZ) (by simp; omega))) a0)) (by simp)) rfl (by rw [List.length_map]; omega) ?_
          show wS s_nx _ _
          refine w_nx ?_
          show J3 (q + 1) _
          rw [hJ3]
          refine ⟨im (.int t), im (tZ (t :: s.1)), im (tZ rw_), ?_⟩
          rw [step, gr, if_pos (by omega), Option.toList_some, List.map_append, List.map_cons, List.map_nil]
          rfl
        · have hb2 := of_decide_eq_false hb
          refine w_nx ?_
          show wS s_nx _ _
          refine w_nx ?_
          show J3 (q + 1) _
          rw [hJ3]
          refine ⟨im (.int t), im (tZ (t :: s.1)), im (tZ rw_), ?_⟩
          rw [step, gr, if_neg (by omega), Option.toList_none, List.append_nil]
      · rw [hJ3] at h
        obtain ⟨g, h, i, rfl⟩ := h
        show J2 (j + 1) _
        rw [hJ2]
        refine ⟨im (enS s), g, h, i, ?_⟩
        rw [tk, hgs s]
    · rw [hJ2] at h
      obtain ⟨f, g, h, i, rfl⟩ := h
      rw [List.take_length]
      have e5 : sl.flatMap gs = sttP P R ws most (k + 1) := by
        show _ = stt (gv P) (Wf ws) (Ff R ws) P.length most (k + 1)
        rw [stt_succ, hsl, ← hv]
        refine fl_congr fun s _ => ?_
        rw [hgs, hup, hfl]
        rfl
      rw [e5]
      show wS _ _ _
      refine w_seq (w_fz (w_setI (x := x_var 7) (vI rfl) rfl ?_))
      show wS s_nx _ _
      refine w_nx ?_
      show J (k + 1) _
      rw [hJ]
      exact ⟨_, _, _, _, _, _, _, _, rfl⟩
  · rw [hJ] at h
    obtain ⟨a, b, c, d, f, g, h, i, rfl⟩ := h
    show wS _ _ _
    exact w_seq (w_ret (vI rfl) ⟨_, rfl, rfl⟩)
end
end K15
namespace K15
open PySem PySem.Spec PyProof.Rows L2 DL
/-! ### the program's open row -/
section
variable (p : Nat → Nat) (h : Nat → Int)
def upB (t : Int) : Nat → Nat → Nat
  | 0, u => u
  | k + 1, u => if u = 0 ∨ t < h u then u else upB t k (p u)
def upF (t : Int) (u : Nat) : Nat := upB p h t u u
def anB (v : Nat) : Nat → Nat → Bool
  | 0, u => u == v
  | k + 1, u => if v < u then anB v k (p u) else u == v
def anF (v u : Nat) : Bool := anB p v u u
end
section
variable {p : Nat → Nat} {h : Nat → Int} {n : Nat} (hp : Par p n)
include hp
theorem upB_more {t : Int} : ∀ (u k : Nat), u ≤ n → u ≤ k → upB p h t k u = upB p h t u u := by
  intro u
  induction u using Nat.strongRecOn with
  | ind u ih =>
    intro k hu hk
    cases u with
    | zero =>
      cases k with
      | zero => rfl
      | succ k => exact if_pos (.inl rfl)
    | succ u =>
      obtain ⟨k, rfl⟩ : ∃ j, k = j + 1 := ⟨k - 1, by omega⟩
      have l := hp (u + 1) (by omega) hu
      show (if _ then _ else upB p h t k (p (u + 1))) = (if _ then _ else upB p h t u (p (u + 1)))
      rw [ih (p (u + 1)) l k (by omega) (by omega), ih (p (u + 1)) l u (by omega) (by omega)]
theorem upF_eq {t : Int} {u : Nat} (h1 : 1 ≤ u) (h2 : u ≤ n) : upF p h t u = if t < h u then u else upF p h t (p u) := by
  obtain ⟨u, rfl⟩ : ∃ j, u = j + 1 := ⟨u - 1, by omega⟩
  have l := hp (u + 1) (by omega) h2
  unfold upF
  rw [← upB_more hp (h := h) (t := t) (p (u + 1)) u (by omega) (by omega)]
  show (if u + 1 = 0 ∨ t < h (u + 1) then u + 1 else _) = _
  by_cases z : t < h (u + 1)
  · rw [if_pos (.inr z), if_pos z]
  · rw [if_neg (by omega), if_neg z]
theorem upF_le {t : Int} : ∀ u, u ≤ n → upF p h t u ≤ u := by
  intro u
  induction u using Nat.strongRecOn with
  | ind u ih =>
    intro hu
    cases u with
    | zero => exact Nat.le_refl _
    | succ u =>
      rw [upF_eq hp (by omega) hu]
      split
      · exact Nat.le_refl _
      · have l := hp (u + 1) (by omega) hu
        exact Nat.le_trans (ih _ l (by omega)) (by omega)
theorem anB_more {v : Nat} : ∀ (u k : Nat), u ≤ n → u ≤ k → anB p v k u = anB p v u u := by
  intro u
  induction u using Nat.strongRecOn with
  | ind u ih =>
    intro k hu hk
    cases u with
    | zero =>
      cases k with
      | zero => rfl
      | succ k => exact if_neg (by omega)
    | succ u =>
      obtain ⟨k, rfl⟩ : ∃ j, k = j + 1 := ⟨k - 1, by omega⟩
      have l := hp (u + 1) (by omega) hu
      show (if _ then anB p v k (p (u + 1)) else _) = (if _ then anB p v u (p (u + 1)) else _)
      rw [ih (p (u + 1)) l k (by omega) (by omega), ih (p (u + 1)) l u (by omega) (by omega)]
theorem anF_eq {v u : Nat} (h1 : 1 ≤ u) (h2 : u ≤ n) : anF p v u = if v < u then anF p v (p u) else u == v := by
  obtain ⟨u, rfl⟩ : ∃ j, u = j + 1 := ⟨u - 1, by omega⟩
  have l := hp (u + 1) (by omega) h2
  unfold anF
  rw [← anB_more hp (v := v) (p (u + 1)) u (by omega) (by omega)]
  rfl
theorem an_low {v u : Nat} (h : u < v) (hu : u ≤ n) : anF p v u = false := by
  cases u with
  | zero =>
    show (0 == v) = false
    simp
    omega
  | succ u =>
    rw [anF_eq hp (by omega) hu, if_neg (by omega)]
    simp
    omega
theorem op_up {v : Nat} {t : Int} (hv : 1 ≤ v) : ∀ z, v ≤ z → z ≤ n → (op p h v t z = true ↔ upF p h t (p z) < v ∧ anF p v z = true) := by
  intro z
  induction z using Nat.strongRecOn with
  | ind z ih =>
    intro h1 h2
    have l := hp z (by omega) h2
    have ul := upF_le hp (h := h) (t := t) (p z) (by omega)
    rw [op_eq hp (by omega) h2, anF_eq hp (by omega) h2]
    by_cases e : z = v
    · subst e
      rw [if_neg (by omega)]
      simp
      omega
    · have e2 : (z == v) = false := by simp; exact e
      rw [e2, Bool.false_or, decide_eq_true (by omega : v < z), Bool.true_and, if_pos (by omega : v < z), Bool.and_eq_true, decide_eq_true_eq]
      by_cases w : v ≤ p z
      · rw [ih (p z) l w (by omega), upF_eq hp (u := p z) (by omega) (by omega)]
        by_cases y : t < h (p z)
        · rw [if_pos y]
          constructor
          · rintro ⟨a, _⟩; omega
          · rintro ⟨a, _⟩; omega
        · rw [if_neg y]
          constructor
          · rintro ⟨_, b⟩; exact b
          · intro b; exact ⟨by omega, b⟩
      · have a1 := an_low hp (v := v) (u := p z) (by omega) (by omega)
        constructor
        · rintro ⟨_, b⟩
          have := op_ge hp _ (by omega) b
          omega
        · rintro ⟨_, b⟩
          rw [a1] at b
          cases b
end
section
variable {P : List Nat} {hs : List Int} (hp : Par (gv P) P.length) (few : P.length ≤ 100) (hl : hs.length = P.length) (pos : ∀ x ∈ hs, 1 ≤ x)
include few hl pos
theorem v_is_heights : F_is_heights [tN P, tZ hs] = some (.im (.bool true)) := by
  have t1 : t_of (x_isi .tuple (x_var 1)) [im (tN P), im (tZ hs), none] = some (true, [im (tN P), im (tZ hs), none]) := bang (by rw [r_x_isi, vI rfl]; rfl)
  have l0 : x_cb c_len (a_cons (x_var 0) a_nil) [im (tN P), im (tZ hs), none] = some (.im (.int (P.length : Int)), [im (tN P), im (tZ hs), none]) := by
    have q := cbLen (x := x_var 0) (e := [im (tN P), im (tZ hs), none]) (.inr (.inr (vI rfl)))
    rw [List.length_map] at q
    exact q
  have l1 : x_cb c_len (a_cons (x_var 1) a_nil) [im (tN P), im (tZ hs), none] = some (.im (.int (P.length : Int)), [im (tN P), im (tZ hs), none]) := by
    have q := cbLen (x := x_var 1) (e := [im (tN P), im (tZ hs), none]) (.inr (.inr (vI rfl)))
    rw [List.length_map, hl] at q
    exact q
  have t2 : t_of (x_bin p_ne (x_cb c_len (a_cons (x_var 1) a_nil)) (x_cb c_len (a_cons (x_var 0) a_nil))) [im (tN P), im (tZ hs), none] = some (false, [im (tN P), im (tZ hs), none]) := bang (binI l1 l0 (by rw [e_ne, decide_eq_true rfl]; rfl))
  refine w_eq rfl (w_seq (w_ifF (torF (tnot t1) t2) (w_nx ?_)))
  have lc := lcA (fi := i_seq (x_var 1)) (γ := g_name 2) (fe := x_call F_is_natural [] (a_cons (x_var 2) a_nil)) (vs := [2]) (e := [im (tN P), im (tZ hs), none]) hs PyData.int (fun x => .bool (decide (1 ≤ x))) (iseqT (vI rfl)) rfl (by omega) fun x _ => ⟨_, rfl, _, callI (aI (vI rfl) a0) rfl (v_is_natural x), rfl, rfl⟩
  have z : hs.map (fun x => PyData.bool (decide (1 ≤ x))) = (hs.map fun x => decide (1 ≤ x)).map PyData.bool := by rw [List.map_map]; rfl
  rw [z] at lc
  have al : (hs.map fun x => decide (1 ≤ x)).all id = true := by
    rw [List.all_eq_true]
    intro b hb
    obtain ⟨x, hx, rfl⟩ := List.mem_map.mp hb
    exact decide_eq_true (pos x hx)
  have q := cbA lc
  rw [al] at q
  exact w_seq (w_ret q ⟨_, rfl, rfl⟩)
include hp
theorem v_bases_by : F_bases_by [tN P, tZ hs] = some (.im (tN ((List.range P.length).map fun k => upF (gv P) (gv hs) (gv hs (k + 1)) (gv P (k + 1))))) := by
  refine w_eq rfl ?_
  refine w_seq (w_ifF (e1 := [im (tN P), im (tZ hs), none, none, none, none]) (tnot (b := true) (bang (callI (aI (vI rfl) (aI (vI rfl) a0)) rfl (v_is_heights few hl pos)))) (w_nx ?_))
  show wS _ [im (tN P), im (tZ hs), none, none, none, none] _
  refine w_seq (w_setA (x := x_lst a_nil) (ds := []) rfl rfl ?_)
  show wS _ [im (tN P), im (tZ hs), ac [], none, none, none] _
  obtain ⟨J, hJ⟩ : ∃ J : Nat → Ev → Prop, ∀ k e, J k e = (∃ a b c : Option Sl, e = [im (tN P), im (tZ hs), ac (((List.range k).map fun k => upF (gv P) (gv hs) (gv hs (k + 1)) (gv P (k + 1))).map nD), a, b, c]) := ⟨fun k e => _, fun _ _ => rfl⟩
  have zi : i_zip (x_var 1) (x_var 0) [im (tN P), im (tZ hs), ac [], none, none, none] = some ((List.range P.length).map fun k => PyData.tuple [.int (gv hs (k + 1)), nD (gv P (k + 1))], [im (tN P), im (tZ hs), ac [], none, none, none]) := by
    have z := zip_map PyData.int nD hs P hl
    rw [hl] at z
    rw [r_i_zip]
    show some (zipD (hs.map PyData.int) (P.map nD), _) = _
    rw [z]
  refine w_seq (w_forN P.length _ J zi (by rw [hJ]; exact ⟨none, none, none, rfl⟩) (fun k hk e h => ?_) fun e h => ?_)
  · rw [hJ] at h
    obtain ⟨a, b, c, rfl⟩ := h
    refine ⟨rfl, _, rfl, ?_⟩
    obtain ⟨acc, hacc⟩ : ∃ acc, acc = ((List.range k).map fun k => upF (gv P) (gv hs) (gv hs (k + 1)) (gv P (k + 1))).map nD := ⟨_, rfl⟩
    have la : acc.length = k := by rw [hacc, List.length_map, List.length_map, List.length_range]
    have step : ((List.range (k + 1)).map fun k => upF (gv P) (gv hs) (gv hs (k + 1)) (gv P (k + 1))).map nD = acc ++ [nD (upF (gv P) (gv hs) (gv hs (k + 1)) (gv P (k + 1)))] := by
      rw [List.range_succ, List.map_append, List.map_append, hacc]
      rfl
    rw [← hacc]
    obtain ⟨t, ht⟩ : ∃ t, t = gv hs (k + 1) := ⟨_, rfl⟩
    obtain ⟨u0, hu0⟩ : ∃ u0, u0 = gv P (k + 1) := ⟨_, rfl⟩
    have lu := hp (k + 1) (by omega) (by omega)
    rw [← ht, ← hu0] at step ⊢
    rw [← hu0] at lu
    show wS _ [im (tN P), im (tZ hs), ac acc, im (.int t), im (nD u0), c] _
    refine w_seq (w_setI (x := x_var 4) (vI rfl) rfl ?_)
    show wS _ [im (tN P), im (tZ hs), ac acc, im (.int t), im (nD u0), im (nD u0)] _
    have fin : ∀ u, u = upF (gv P) (gv hs) t u0 → wS (s_seq (s_drop (x_app 2 (x_var 5))) s_nx) [im (tN P), im (tZ hs), ac acc, im (.int t), im (nD u0), im (nD u)] (loopK (J (k + 1)) (seqK (s_seq (s_ret (x_cb c_tuple (a_cons (x_var 2) a_nil))) s_nx) (finK fun r => r = .im (tN ((List.range P.length).map fun k => upF (gv P) (gv hs) (gv hs (k + 1)) (gv P (k + 1))))))) := fun u hu => by
      refine w_seq (w_app (vI rfl) rfl (by omega) ?_)
      show wS s_nx _ _
      refine w_nx ?_
      show J (k + 1) _
      rw [hJ]
      refine ⟨im (.int t), im (nD u0), im (nD u), ?_⟩
      rw [step, ← hu]
      rfl
    obtain ⟨Jw, hJw⟩ : ∃ Jw : Nat → Ev → Prop, ∀ m e, Jw m e = (∃ u, u ≤ m ∧ u ≤ P.length ∧ upF (gv P) (gv hs) t u = upF (gv P) (gv hs) t u0 ∧ e = [im (tN P), im (tZ hs), ac acc, im (.int t), im (nD u0), im (nD u)]) := ⟨fun k e => _, fun _ _ => rfl⟩
    refine w_seq (w_while Jw u0 (by rw [hJw]; exact ⟨u0, Nat.le_refl _, by omega, rfl, rfl⟩) (by show u0 < (u0 : Int).toNat + 1; omega) fun m e h => ?_)
    rw [hJw] at h
    obtain ⟨u, um, un, ue, rfl⟩ := h
    have g1 : t_of (x_bin p_ne (x_var 5) (x_c (.int 0))) [im (tN P), im (tZ hs), ac acc, im (.int t), im (nD u0), im (nD u)] = some (!decide ((u : Int) = 0), [im (tN P), im (tZ hs), ac acc, im (.int t), im (nD u0), im (nD u)]) := bang (binI (vI rfl) cI e_ne)
    by_cases z : u = 0
    · rw [decide_eq_true (by omega : (u : Int) = 0)] at g1
      refine ⟨_, _, tandF g1, fun _ => fin u ?_, fun hb => by cases hb⟩
      rw [← ue, z]
      rfl
    · rw [decide_eq_false (by omega : ¬ (u : Int) = 0)] at g1
      have ixh : p_ix (tZ hs) (.int ((u : Int) - 1)) = some (.im (.int (gv hs u))) := ixv (f := PyData.int) (by omega) (by omega)
      have ixp : p_ix (tN P) (.int ((u : Int) - 1)) = some (.im (nD (gv P u))) := ixv (f := nD) (by omega) un
      have g2 : t_of (x_bin q_le (x_ix (x_var 1) (x_bin p_sub (x_var 5) (x_c (.int 1)))) (x_var 3)) [im (tN P), im (tZ hs), ac acc, im (.int t), im (nD u0), im (nD u)] = some (decide (gv hs u ≤ t), [im (tN P), im (tZ hs), ac acc, im (.int t), im (nD u0), im (nD u)]) := bang (binI (binI (vI rfl) (binI (vI rfl) cI e_sub) ixh) (vI rfl) e_qle)
      have ueq := upF_eq hp (h := gv hs) (t := t) (u := u) (by omega) un
      refine ⟨_, _, tandT g1 g2, fun hb => fin u ?_, fun hb => ?_⟩
      · have nb := of_decide_eq_false hb
        rw [← ue, ueq, if_pos (by omega)]
      · have yb := of_decide_eq_true hb
        rw [if_neg (by omega)] at ueq
        have lp := hp u (by omega) un
        obtain ⟨m', rfl⟩ : ∃ j, m = j + 1 := ⟨m - 1, by omega⟩
        refine ⟨m', rfl, w_setI (binI (vI rfl) (binI (vI rfl) cI e_sub) ixp) rfl ?_⟩
        show Jw m' _
        rw [hJw]
        exact ⟨gv P u, by omega, by omega, by rw [← ueq]; exact ue, rfl⟩
  · rw [hJ] at h
    obtain ⟨a, b, c, rfl⟩ := h
    show wS _ _ _
    exact w_seq (w_ret (cbTv rfl) ⟨_, rfl, rfl⟩)
omit hl pos in
theorem v_an {v z : Nat} (hv : 1 ≤ v) (hz : z ≤ P.length) : F_at_or_below [tN P, nD v, nD z] = some (.im (.bool (anF (gv P) v z))) := by
  refine w_eq rfl ?_
  refine w_seq (w_setI (x := x_var 2) (vI rfl) rfl ?_)
  show wS _ [im (tN P), im (nD v), im (nD z), im (nD z)] _
  obtain ⟨Jw, hJw⟩ : ∃ Jw : Nat → Ev → Prop, ∀ m e, Jw m e = (∃ u, u ≤ m ∧ u ≤ P.length ∧ anF (gv P) v u = anF (gv P) v z ∧ e = [im (tN P), im (nD v), im (nD z), im (nD u)]) := ⟨fun k e => _, fun _ _ => rfl⟩
  refine w_seq (w_while Jw z (by rw [hJw]; exact ⟨z, Nat.le_refl _, hz, rfl, rfl⟩) (by show z < (z : Int).toNat + 1; omega) fun m e h => ?_)
  rw [hJw] at h
  obtain ⟨u, um, un, ue, rfl⟩ := h
  refine ⟨_, _, bang (binI (vI rfl) (vI rfl) e_qgt), fun hb => ?_, fun hb => ?_⟩
  · have nb := of_decide_eq_false hb
    show wS _ _ _
    have e1 : anF (gv P) v u = decide ((u : Int) = (v : Int)) := by
      by_cases w : u = 0
      · subst w
        show (0 == v) = _
        rw [show (0 == v) = false by simp; omega, eq_comm, decide_eq_false_iff_not]
        omega
      · rw [anF_eq hp (by omega) un, if_neg (by omega)]
        by_cases y : u = v
        · subst y
          simp
        · rw [show (u == v) = false by simp; exact y, eq_comm, decide_eq_false_iff_not]
          omega
    rw [← ue, e1]
    exact w_seq (w_ret (binI (vI rfl) (vI rfl) e_eq) ⟨_, rfl, rfl⟩)
  · have yb := of_decide_eq_true hb
    have ixp : p_ix (tN P) (.int ((u : Int) - 1)) = some (.im (nD (gv P u))) := ixv (f := nD) (by omega) un
    have lp := hp u (by omega) un
    have ae := anF_eq hp (v := v) (u := u) (by omega) un
    rw [if_pos (by omega)] at ae
    obtain ⟨m', rfl⟩ : ∃ j, m = j + 1 := ⟨m - 1, by omega⟩
    refine ⟨m', rfl, w_setI (binI (vI rfl) (binI (vI rfl) cI e_sub) ixp) rfl ?_⟩
    show Jw m' _
    rw [hJw]
    exact ⟨gv P u, by omega, by omega, by rw [← ae]; exact ue, rfl⟩
theorem v_open_at {v : Nat} (h1 : 1 ≤ v) (h2 : v ≤ P.length) : F_open_at [tN P, tZ hs, nD v] = some (.im (tN (opL (gv P) (gv hs) P.length v))) := by
  refine w_eq rfl ?_
  obtain ⟨bs, hbs⟩ : ∃ bs, bs = (List.range P.length).map fun k => upF (gv P) (gv hs) (gv hs (k + 1)) (gv P (k + 1)) := ⟨_, rfl⟩
  have vb := v_bases_by hp few hl pos
  rw [← hbs] at vb
  have lb : bs.length = P.length := by rw [hbs, List.length_map, List.length_range]
  have bz : ∀ z, 1 ≤ z → z ≤ P.length → gv bs z = upF (gv P) (gv hs) (gv hs z) (gv P z) := fun z z1 z2 => by
    have g : bs[z - 1]? = some (upF (gv P) (gv hs) (gv hs z) (gv P z)) := by
      rw [hbs, List.getElem?_map, List.getElem?_range (by omega)]
      have ez : z - 1 + 1 = z := by omega
      show some (upF (gv P) (gv hs) (gv hs (z - 1 + 1)) (gv P (z - 1 + 1))) = _
      rw [ez]
    have q := gv_some g
    rw [show z - 1 + 1 = z by omega] at q
    exact q
  refine w_seq (w_setI (d := tN bs) (e1 := [im (tN P), im (tZ hs), im (nD v), none, none, none]) (callI (aI (vI rfl) (aI (vI rfl) a0)) rfl vb) rfl ?_)
  show wS _ [im (tN P), im (tZ hs), im (nD v), im (tN bs), none, none] _
  have nv : F_need_version [tN P, nD v] = some (.im .none) := by
    have l0 : x_cb c_len (a_cons (x_var 0) a_nil) [im (tN P), im (nD v)] = some (.im (.int (P.length : Int)), [im (tN P), im (nD v)]) := by
      have q := cbLen (x := x_var 0) (e := [im (tN P), im (nD v)]) (.inr (.inr (vI rfl)))
      rw [List.length_map] at q
      exact q
    have u := v_up_to (v : Int) (P.length : Int)
    rw [decide_eq_true (by omega : (1 : Int) ≤ v), decide_eq_true (by omega : (v : Int) ≤ P.length)] at u
    exact w_eq rfl (w_ifF (e1 := [im (tN P), im (nD v)]) (tnot (b := true) (bang (callI (aI (vI rfl) (aI l0 a0)) rfl u))) (w_nx rfl))
  refine w_seq (w_drop (r := .im .none) (e1 := [im (tN P), im (tZ hs), im (nD v), im (tN bs), none, none]) (callI (aI (vI rfl) (aI (vI rfl) a0)) rfl nv) ?_)
  show wS _ [im (tN P), im (tZ hs), im (nD v), im (tN bs), none, none] _
  refine w_seq (w_setA (x := x_lst a_nil) (ds := []) rfl rfl ?_)
  show wS _ [im (tN P), im (tZ hs), im (nD v), im (tN bs), ac [], none] _
  have l0 : x_cb c_len (a_cons (x_var 0) a_nil) [im (tN P), im (tZ hs), im (nD v), im (tN bs), ac [], none] = some (.im (.int (P.length : Int)), [im (tN P), im (tZ hs), im (nD v), im (tN bs), ac [], none]) := by
    have q := cbLen (x := x_var 0) (e := [im (tN P), im (tZ hs), im (nD v), im (tN bs), ac [], none]) (.inr (.inr (vI rfl)))
    rw [List.length_map] at q
    exact q
  obtain ⟨J, hJ⟩ : ∃ J : Nat → Ev → Prop, ∀ k e, J k e = (∃ a : Option Sl, e = [im (tN P), im (tZ hs), im (nD v), im (tN bs), ac ((((List.range k).map (v + ·)).filter fun z => op (gv P) (gv hs) v (gv hs z) z).map nD), a]) := ⟨fun k e => _, fun _ _ => rfl⟩
  refine w_seq (w_forN (P.length + 1 - v) (fun k => nD (v + k)) J (iRngN (vI rfl) (binI l0 cI e_add) (by omega) (by omega)) (by rw [hJ]; exact ⟨none, rfl⟩) (fun k hk e h => ?_) fun e h => ?_)
  · rw [hJ] at h
    obtain ⟨a, rfl⟩ := h
    refine ⟨rfl, _, rfl, ?_⟩
    have z2 : v + k ≤ P.length := by omega
    have e1 : (List.range (k + 1)).map (v + ·) = (List.range k).map (v + ·) ++ [v + k] := by
      rw [List.range_succ, List.map_append]
      rfl
    generalize hz : v + k = z at z2 e1
    have z1 : v ≤ z := by omega
    obtain ⟨acc, hacc⟩ : ∃ acc, acc = (((List.range k).map (v + ·)).filter fun z => op (gv P) (gv hs) v (gv hs z) z).map nD := ⟨_, rfl⟩
    have la : acc.length ≤ k := by
      rw [hacc, List.length_map]
      refine Nat.le_trans (List.length_filter_le _ _) ?_
      simp
    rw [← hacc]
    show wS _ [im (tN P), im (tZ hs), im (nD v), im (tN bs), ac acc, im (nD z)] _
    have ou := op_up hp (h := gv hs) (v := v) (t := gv hs z) h1 z z1 z2
    have ixb : p_ix (tN bs) (.int ((z : Int) - 1)) = some (.im (nD (gv bs z))) := ixv (f := nD) (by omega) (by omega)
    have g1 : t_of (x_bin q_lt (x_ix (x_var 3) (x_bin p_sub (x_var 5) (x_c (.int 1)))) (x_var 2)) [im (tN P), im (tZ hs), im (nD v), im (tN bs), ac acc, im (nD z)] = some (decide (((gv bs z : Nat) : Int) < v), [im (tN P), im (tZ hs), im (nD v), im (tN bs), ac acc, im (nD z)]) := bang (binI (binI (vI rfl) (binI (vI rfl) cI e_sub) ixb) (vI rfl) e_qlt)
    have g2 : t_of (x_call F_at_or_below [] (a_cons (x_var 0) (a_cons (x_var 2) (a_cons (x_var 5) a_nil)))) [im (tN P), im (tZ hs), im (nD v), im (tN bs), ac acc, im (nD z)] = some (anF (gv P) v z, [im (tN P), im (tZ hs), im (nD v), im (tN bs), ac acc, im (nD z)]) := bang (callI (aI (vI rfl) (aI (vI rfl) (aI (vI rfl) a0))) rfl (v_an hp few h1 z2))
    have bzz := bz z (by omega) z2
    have no : op (gv P) (gv hs) v (gv hs z) z = false → J (k + 1) [im (tN P), im (tZ hs), im (nD v), im (tN bs), ac acc, im (nD z)] := fun o => by
      rw [hJ]
      refine ⟨im (nD z), ?_⟩
      rw [e1, List.filter_append, List.filter_cons_of_neg (by rw [o]; simp), List.filter_nil, List.append_nil, ← hacc]
    by_cases c1 : gv bs z < v
    · rw [decide_eq_true (by omega : ((gv bs z : Nat) : Int) < v)] at g1
      refine w_if (tandT g1 g2) (fun hb => ?_) fun hb => w_nx (no ?_)
      · have o := ou.mpr ⟨by rw [← bzz]; exact c1, hb⟩
        refine w_app (vI rfl) rfl (by omega) ?_
        show J (k + 1) _
        rw [hJ]
        refine ⟨im (nD z), ?_⟩
        rw [e1, List.filter_append, List.filter_cons_of_pos (by exact o), List.filter_nil, List.map_append, ← hacc]
        rfl
      · cases q : op (gv P) (gv hs) v (gv hs z) z with
        | false => rfl
        | true =>
          have := (ou.mp q).2
          rw [hb] at this
          cases this
    · rw [decide_eq_false (by omega : ¬ ((gv bs z : Nat) : Int) < v)] at g1
      refine w_ifF (tandF g1) (w_nx (no ?_))
      cases q : op (gv P) (gv hs) v (gv hs z) z with
      | false => rfl
      | true =>
        have := (ou.mp q).1
        rw [← bzz] at this
        exact absurd this c1
  · rw [hJ] at h
    obtain ⟨a, rfl⟩ := h
    rw [← opL_split (by omega)]
    show wS _ _ _
    exact w_seq (w_ret (cbTv rfl) ⟨_, rfl, rfl⟩)
theorem v_open_row {v : Nat} (h1 : 1 ≤ v) (h2 : v ≤ P.length) : F_open_row [tN P, tZ hs, nD v] = some (.im (tZ (openRow (gv P) (gv hs) P.length v))) := by
  have lc := lcA (fi := i_seq (x_call F_open_at [] (a_cons (x_var 0) (a_cons (x_var 1) (a_cons (x_var 2) a_nil))))) (γ := g_name 3) (fe := x_ix (x_var 1) (x_bin p_sub (x_var 3) (x_c (.int 1)))) (vs := [3]) (e := [im (tN P), im (tZ hs), im (nD v), none]) (opL (gv P) (gv hs) P.length v) nD (fun z => .int (gv hs z))
    (iseqT (callI (aI (vI rfl) (aI (vI rfl) (aI (vI rfl) a0))) rfl (v_open_at hp few hl pos h1 h2))) rfl (by
      unfold opL
      refine Nat.le_trans (List.length_filter_le _ _) ?_
      rw [List.length_range]
      omega) fun z hz => by
        obtain ⟨z1, z2, _⟩ := mem_opL.mp hz
        have ixh : p_ix (tZ hs) (.int ((z : Int) - 1)) = some (.im (.int (gv hs z))) := ixv (f := PyData.int) (by omega) (by omega)
        exact ⟨_, rfl, _, binI (vI rfl) (binI (vI rfl) cI e_sub) ixh, rfl, rfl⟩
  have z : (opL (gv P) (gv hs) P.length v).map (fun z => PyData.int (gv hs z)) = ((opL (gv P) (gv hs) P.length v).map (gv hs)).map PyData.int := by rw [List.map_map]; rfl
  rw [z] at lc
  exact w_eq rfl (w_ret (callI (aA lc a0) rfl (v_falling _)) ⟨_, rfl, rfl⟩)
end
end K15
namespace K15
open PySem PySem.Spec PyProof.Rows L2 DL
/-! ### the great ones: the rows told -/
section
variable {P : List Nat} {R : Int} {ws : List (Nat × Int)} (O : OkP P R ws)
abbrev rowsD (P : List Nat) (R : Int) (ws : List (Nat × Int)) : PyData := .tuple ((List.range P.length).map fun k => tZ (rowP P R ws (k + 1)))
abbrev hts (P : List Nat) (R : Int) (ws : List (Nat × Int)) : List Int := (List.range P.length).map fun k => hgt P R ws (k + 1)
include O
theorem rowP_len {v : Nat} (h1 : 1 ≤ v) (h2 : v ≤ P.length) : (rowP P R ws v).length ≤ 999 := by
  have a := rwo_len (W := Wf ws) (F := Ff R ws) (v := v) (O.w h1 h2).1 (bl (Wf ws) (Ff R ws) (gv P) P.length (P.length - v) v)
  exact Nat.le_trans a (O.w h1 h2).2
theorem gd_rows (N : Nat) : Gd (N + 3) (rowsD P R ws) := by
  have few := O.few
  refine ⟨by rw [List.length_map, List.length_range]; omega, fun d hd => ?_⟩
  obtain ⟨k, hk, rfl⟩ := List.mem_map.mp hd
  have := List.mem_range.mp hk
  exact gd_ints (Nat.le_trans (rowP_len O (by omega) (by omega)) (by omega))
theorem fl_pos {v : Nat} (h1 : 1 ≤ v) (h2 : v ≤ P.length) : 1 ≤ Ff R ws v := by
  have a := O.b.all _ (gv_mem (l := ws) h1 (by rw [O.b.len]; exact h2))
  show 1 ≤ R + 1 - (gv ws v).2
  omega
theorem hgt_pos {v : Nat} (h1 : 1 ≤ v) (h2 : v ≤ P.length) : 1 ≤ hgt P R ws v := Int.le_trans (fl_pos O h1 h2) sh_ge
omit O in
theorem hts_len : (hts P R ws).length = P.length := by rw [List.length_map, List.length_range]
omit O in
theorem hts_at {v : Nat} (h1 : 1 ≤ v) (h2 : v ≤ P.length) : gv (hts P R ws) v = hgt P R ws v := by
  have ez : v - 1 + 1 = v := by omega
  have g : (hts P R ws)[v - 1]? = some (hgt P R ws v) := by
    rw [List.getElem?_map, List.getElem?_range (by omega)]
    show some (hgt P R ws (v - 1 + 1)) = _
    rw [ez]
  have q := gv_some g
  rw [ez] at q
  exact q
theorem hts_pos : ∀ x ∈ hts P R ws, 1 ≤ x := fun x hx => by
  obtain ⟨k, hk, rfl⟩ := List.mem_map.mp hx
  have := List.mem_range.mp hk
  exact hgt_pos O (by omega) (by omega)
theorem row_is_open {v : Nat} (h1 : 1 ≤ v) (h2 : v ≤ P.length) : rowP P R ws v = openRow (gv P) (gv (hts P R ws)) P.length v := by
  rw [show rowP P R ws v = openRow (gv P) (wh (Wf ws) (Ff R ws) (gv P) P.length) P.length v from row_open O.par v h2 h1]
  exact openRow_congr O.par fun u u1 u2 => (hts_at (R := R) (ws := ws) (by omega) u2).symm
theorem hd_ge {v : Nat} (h1 : 1 ≤ v) (h2 : v ≤ P.length) : hgt P R ws v ≤ hd (rowP P R ws v) := by
  obtain ⟨l, hl⟩ := row_last (P := P) (R := R) (ws := ws) v
  have d : Down (rowP P R ws v) := row_down v
  rw [hl] at d ⊢
  show hgt P R ws v ≤ _
  cases l with
  | nil => exact Int.le_refl _
  | cons a l =>
    have := List.rel_of_pairwise_cons d (List.mem_append.mpr (.inr (List.mem_singleton.mpr rfl)))
    exact this
abbrev hds (P : List Nat) (R : Int) (ws : List (Nat × Int)) : List Int := (List.range P.length).map fun k => hd (rowP P R ws (k + 1))
theorem hds_pos : ∀ x ∈ hds P R ws, 0 ≤ x := fun x hx => by
  obtain ⟨k, hk, rfl⟩ := List.mem_map.mp hx
  have := List.mem_range.mp hk
  have a := hd_ge O (v := k + 1) (by omega) (by omega)
  have b := hgt_pos O (v := k + 1) (by omega) (by omega)
  omega
theorem top_keep : (!goesB P R ws) = decide (topR P R ws ≤ R) := by
  have r1 := O.b.r1
  have e : topR P R ws ≤ R ↔ ∀ x ∈ hds P R ws, x ≤ R := maxO_le (by omega)
  by_cases z : topR P R ws ≤ R
  · rw [decide_eq_true z, Bool.not_eq_true']
    unfold goesB
    rw [List.any_eq_false]
    intro b hb
    obtain ⟨k, hk, rfl⟩ := List.mem_map.mp hb
    have := List.mem_range.mp hk
    have y := e.mp z (hd (rowP P R ws (P.length - k))) (List.mem_map.mpr ⟨P.length - k - 1, List.mem_range.mpr (by omega), by rw [show P.length - k - 1 + 1 = P.length - k by omega]⟩)
    simp only [id, decide_eq_true_eq]
    omega
  · rw [decide_eq_false z, Bool.not_eq_false']
    unfold goesB
    rw [List.any_eq_true]
    have nz : ∃ x ∈ hds P R ws, ¬ x ≤ R := by
      refine Classical.byContradiction fun y => z (e.mpr fun x hx => ?_)
      exact Classical.byContradiction fun w => y ⟨x, hx, w⟩
    obtain ⟨x, hx, hR⟩ := nz
    obtain ⟨k, hk, rfl⟩ := List.mem_map.mp hx
    have := List.mem_range.mp hk
    refine ⟨true, List.mem_map.mpr ⟨P.length - (k + 1), List.mem_range.mpr (by omega), ?_⟩, rfl⟩
    rw [show P.length - (P.length - (k + 1)) = k + 1 by omega]
    exact decide_eq_true (by omega)
omit O in
/-- alike: the test is passed by -/
theorem same_ok {x y : Fe} {e e1 e2 : Ev} {d : PyData} (h1 : x e = some (.im d, e1)) (h2 : y e1 = some (.im d, e2)) (g : Gd 8 d) : t_of (x_call F__law_same [] (a_cons x (a_cons y a_nil))) e = some (true, e2) :=
  bang (callI (aI h1 (aI h2 a0)) rfl (v_same g))
theorem v_told (pick : Int) : F__law_told [tN P, bD R ws, .int pick] = some (.im (.bool true)) := by
  have few := O.few
  have ro := v_rows_of O
  have nl0 : ∀ (a b c d e : Option Sl), x_cb c_len (a_cons (x_var 0) a_nil) [im (tN P), im (bD R ws), im (.int pick), a, b, c, d, e] = some (.im (.int (P.length : Int)), [im (tN P), im (bD R ws), im (.int pick), a, b, c, d, e]) := fun a b c d e => by
    have q := cbLen (x := x_var 0) (e := [im (tN P), im (bD R ws), im (.int pick), a, b, c, d, e]) (.inr (.inr (vI rfl)))
    rw [List.length_map] at q
    exact q
  refine w_eq rfl ?_
  refine w_seq (w_setI (d := rowsD P R ws) (e1 := [im (tN P), im (bD R ws), im (.int pick), none, none, none, none, none]) (callI (aI (vI rfl) (aI (vI rfl) a0)) rfl ro) rfl ?_)
  show wS _ [im (tN P), im (bD R ws), im (.int pick), im (rowsD P R ws), none, none, none, none] _
  refine w_seq (w_ifF (tnot (same_ok (vI rfl) (callI (aI (vI rfl) (aI (vI rfl) a0)) rfl (v_lwalk O)) (gd_rows O 5))) (w_nx ?_))
  show wS _ [im (tN P), im (bD R ws), im (.int pick), im (rowsD P R ws), none, none, none, none] _
  refine w_seq (w_setI (d := tZ (hts P R ws)) (e1 := [im (tN P), im (bD R ws), im (.int pick), im (rowsD P R ws), none, none, none, none]) (callKI a0 (aI (vI rfl) (aI (vI rfl) a0)) rfl (v_walk_heights O)) rfl ?_)
  show wS _ [im (tN P), im (bD R ws), im (.int pick), im (rowsD P R ws), im (tZ (hts P R ws)), none, none, none] _
  have lc := lcA (fi := i_seq (x_var 3)) (γ := g_name 7) (fe := x_ix (x_var 7) (x_neg (x_c (.int 1)))) (vs := [7]) (e := [im (tN P), im (bD R ws), im (.int pick), im (rowsD P R ws), im (tZ (hts P R ws)), none, none, none]) (List.range P.length) (fun k => tZ (rowP P R ws (k + 1))) (fun k => .int (hgt P R ws (k + 1)))
    (iseqT (vI rfl)) rfl (by rw [List.length_range]; omega) fun k _ => by
      obtain ⟨l, hl⟩ := row_last (P := P) (R := R) (ws := ws) (k + 1)
      have q : p_ix (tZ (rowP P R ws (k + 1))) (.int (-1)) = some (.im (.int (hgt P R ws (k + 1)))) := by
        rw [hl]
        exact ix_last
      exact ⟨_, rfl, _, binI (vI rfl) (negI cI) q, rfl, rfl⟩
  have z1 : (List.range P.length).map (fun k => PyData.int (hgt P R ws (k + 1))) = (hts P R ws).map PyData.int := by rw [List.map_map]; rfl
  rw [z1] at lc
  refine w_seq (w_ifF (tnot (same_ok (d := tZ (hts P R ws)) (vI rfl) (cbT lc) (gd_ints (by rw [hts_len]; omega)))) (w_nx ?_))
  show wS _ [im (tN P), im (bD R ws), im (.int pick), im (rowsD P R ws), im (tZ (hts P R ws)), none, none, none] _
  have lc2 := lcA (fi := i_seq (x_var 3)) (γ := g_name 7) (fe := x_ix (x_var 7) (x_c (.int 0))) (vs := [7]) (e := [im (tN P), im (bD R ws), im (.int pick), im (rowsD P R ws), im (tZ (hts P R ws)), none, none, none]) (List.range P.length) (fun k => tZ (rowP P R ws (k + 1))) (fun k => .int (hd (rowP P R ws (k + 1))))
    (iseqT (vI rfl)) rfl (by rw [List.length_range]; omega) fun k _ => ⟨_, rfl, _, binI (vI rfl) cI (ix_hd (row_ne (P := P) (R := R) (ws := ws) (k + 1))), rfl, rfl⟩
  have z2 : (List.range P.length).map (fun k => PyData.int (hd (rowP P R ws (k + 1)))) = (hds P R ws).map PyData.int := by rw [List.map_map]; rfl
  rw [z2] at lc2
  have lh : (hds P R ws).length = P.length := by rw [List.length_map, List.length_range]
  have tp : maxI (0 :: hds P R ws) = topR P R ws := maxO_zero (hds_pos O)
  refine w_seq (w_setI (d := .int (topR P R ws)) (e1 := [im (tN P), im (bD R ws), im (.int pick), im (rowsD P R ws), im (tZ (hts P R ws)), none, none, none]) (cbA1 (ds := (0 :: hds P R ws).map PyData.int) (binAA (as := [.int 0]) rfl lc2 (e_cat (by simp; omega))) (by rw [maxB_list (by simp), tp])) rfl ?_)
  show wS _ [im (tN P), im (bD R ws), im (.int pick), im (rowsD P R ws), im (tZ (hts P R ws)), im (.int (topR P R ws)), none, none] _
  have tk := top_keep O
  have vc := v_can_keep O
  rw [tk] at vc
  have b0 : p_ix (bD R ws) (.int 0) = some (.im (.int R)) := rfl
  refine w_seq (w_ifF (tnot (same_ok (d := .tuple [.int (topR P R ws), .bool (decide (topR P R ws ≤ R))]) (tupI (aI (callI (aI (vI rfl) (aI (vI rfl) a0)) rfl (v_top_of O)) (aI (callI (aI (vI rfl) (aI (vI rfl) a0)) rfl vc) a0)) (by simp))
    (tupI (aI (vI rfl) (aI (binI (vI rfl) (binI (vI rfl) cI b0) e_qle) a0)) (by simp)) ⟨by simp, fun d hd => ?_⟩)) (w_nx ?_))
  · simp only [List.mem_cons, List.not_mem_nil, or_false] at hd
    rcases hd with rfl | rfl <;> exact True.intro
  show wS _ [im (tN P), im (bD R ws), im (.int pick), im (rowsD P R ws), im (tZ (hts P R ws)), im (.int (topR P R ws)), none, none] _
  obtain ⟨J, hJ⟩ : ∃ J : Nat → Ev → Prop, ∀ k e, J k e = (∃ a : Option Sl, e = [im (tN P), im (bD R ws), im (.int pick), im (rowsD P R ws), im (tZ (hts P R ws)), im (.int (topR P R ws)), a, none]) := ⟨fun k e => _, fun _ _ => rfl⟩
  have rix : ∀ v, 1 ≤ v → v ≤ P.length → p_ix (rowsD P R ws) (.int ((v : Int) - 1)) = some (.im (tZ (rowP P R ws v))) := fun v v1 v2 => by
    rw [show ((v : Int) - 1) = ((v - 1 : Nat) : Int) by omega]
    refine e_ixT ?_
    rw [List.getElem?_map, List.getElem?_range (by omega)]
    show some (tZ (rowP P R ws (v - 1 + 1))) = _
    rw [show v - 1 + 1 = v by omega]
  have gdr : ∀ v, 1 ≤ v → v ≤ P.length → Gd 8 (tZ (rowP P R ws v)) := fun v v1 v2 => gd_ints (Nat.le_trans (rowP_len O v1 v2) (by omega))
  refine w_seq (w_forN (P.length + 1 - 1) (fun k => nD (1 + k)) J (iRngN (a := 1) cI (binI (nl0 _ _ _ _ _) cI e_add) (by omega) (by omega)) (by rw [hJ]; exact ⟨none, rfl⟩) (fun k hk e h => ?_) fun e h => ?_)
  · rw [hJ] at h
    obtain ⟨a, rfl⟩ := h
    refine ⟨rfl, _, rfl, ?_⟩
    generalize hv : 1 + k = v
    have v1 : 1 ≤ v := by omega
    have v2 : v ≤ P.length := by omega
    show wS _ [im (tN P), im (bD R ws), im (.int pick), im (rowsD P R ws), im (tZ (hts P R ws)), im (.int (topR P R ws)), im (nD v), none] _
    have lo := v_lopen (P := P) (hs := hts P R ws) (v := v) (first := 1) O.par few (Nat.le_refl _) v1 v2 (by rw [hts_len])
    have eo : openRow (gv P) (hF (hts P R ws) 1) P.length v = rowP P R ws v := (row_is_open O v1 v2).symm
    rw [eo] at lo
    refine w_ifF (tnot (same_ok (binI (vI rfl) (binI (vI rfl) cI e_sub) (rix v v1 v2)) (callI (aI (vI rfl) (aI (vI rfl) (aI (vI rfl) (aI cI a0)))) rfl lo) (gdr v v1 v2))) (w_nx ?_)
    show J (k + 1) _
    rw [hJ]
    exact ⟨_, rfl⟩
  · rw [hJ] at h
    obtain ⟨a, rfl⟩ := h
    show wS _ [im (tN P), im (bD R ws), im (.int pick), im (rowsD P R ws), im (tZ (hts P R ws)), im (.int (topR P R ws)), a, none] _
    refine w_seq (w_if (bang (binI (nl0 _ _ _ _ _) cI e_eq)) (fun _ => w_ret (r := .im (.bool true)) cI ⟨_, rfl, rfl⟩) fun hb => w_nx ?_)
    have n0 := of_decide_eq_false hb
    show wS _ _ _
    have m0 : 0 ≤ pick % (P.length : Int) := Int.emod_nonneg _ (by omega)
    have m1 : pick % (P.length : Int) < P.length := Int.emod_lt_of_pos _ (by omega)
    obtain ⟨v, hv⟩ : ∃ v : Nat, (v : Int) = 1 + pick % (P.length : Int) := ⟨(1 + pick % (P.length : Int)).toNat, by omega⟩
    have v1 : 1 ≤ v := by omega
    have v2 : v ≤ P.length := by omega
    refine w_seq (w_setI (d := nD v) (e1 := [im (tN P), im (bD R ws), im (.int pick), im (rowsD P R ws), im (tZ (hts P R ws)), im (.int (topR P R ws)), a, none]) (binI cI (binI (cbInt (vI rfl)) (nl0 _ _ _ _ _) (e_mod (by omega))) (by unfold nD; rw [hv]; exact e_add)) rfl ?_)
    show wS _ [im (tN P), im (bD R ws), im (.int pick), im (rowsD P R ws), im (tZ (hts P R ws)), im (.int (topR P R ws)), im (nD v), none] _
    have po := v_open_row (P := P) (hs := hts P R ws) O.par few hts_len (hts_pos O) v1 v2
    rw [← row_is_open O v1 v2] at po
    exact w_seq (w_ret (callI (aI (callI (aI (vI rfl) (aI (vI rfl) (aI (vI rfl) a0))) rfl po) (aI (binI (vI rfl) (binI (vI rfl) cI e_sub) (rix v v1 v2)) a0)) rfl (v_same (gdr v v1 v2))) ⟨_, rfl, rfl⟩)
end
end K15
namespace K15
open PySem PySem.Spec PyProof.Rows L2 DL
/-! ### the great ones -/
theorem lx_not {a b : List Int} (h : lx a b) : ¬ b < a := by
  induction a generalizing b with
  | nil => exact List.not_lt_nil b
  | cons x xs ih =>
    cases b with
    | nil => exact h.elim
    | cons y ys =>
      rw [List.cons_lt_cons_iff]
      rintro (q | ⟨q1, q2⟩)
      · rcases h with h | ⟨h, k⟩ <;> omega
      · rcases h with h | ⟨h, k⟩
        · omega
        · exact ih k q2
def consA : List Int → Fa
  | [] => a_nil
  | a :: l => a_cons (x_c (.int a)) (consA l)
theorem argsC (e : Ev) : ∀ l : List Int, argsI (consA l) e = some (l.map PyData.int, e)
  | [] => a0
  | _ :: l => aI cI (argsC e l)
theorem pick {l : List Int} {x : Fe} {e : Ev} {i : Int} (hx : x e = some (.im (.int i), e)) (h0 : 0 ≤ i) (h1 : i < l.length) (hl : l.length ≤ 100) : ∃ w ∈ l, x_ix (x_tup (consA l)) x e = some (.im (.int w), e) := by
  refine ⟨gv l (i.toNat + 1), gv_mem (by omega) (by omega), ?_⟩
  exact binI (tupI (argsC e l) (by rw [List.length_map]; omega)) hx (ixz h0 h1)
theorem numAt {ns : List Int} {e : Ev} {i : Nat} (h : e[i]? = some (im (lZ ns))) (j : Nat) (hj : j < ns.length) : ∃ c : Int, x_ix (x_var i) (x_c (.int j)) e = some (.im (.int c), e) :=
  ⟨_, binI (vI h) cI (ixzL (f := PyData.int) (l := ns) (i := (j : Int)) (by omega) (by omega))⟩
theorem numD {ns : List Int} {e : Ev} {i : Nat} (h : e[i]? = some (im (lZ ns))) (j : Nat) (hj : j < ns.length) {m : Int} (hm : 0 < m) : ∃ c : Int, x_bin p_mod (x_cb c_int (a_cons (x_ix (x_var i) (x_c (.int j))) a_nil)) (x_c (.int m)) e = some (.im (.int c), e) ∧ 0 ≤ c ∧ c < m := by
  obtain ⟨c, hc⟩ := numAt h j hj
  exact ⟨c % m, binI (cbInt hc) cI (e_mod hm), Int.emod_nonneg _ (by omega), Int.emod_lt_of_pos _ hm⟩
theorem drawn (sc : List Int) (a m : Nat) (hm : m ≤ 1000) : ∃ ns : List Int, ns.length = m ∧ F__law_draw [lZ sc, nD a, nD m] = some (.ac (ns.map PyData.int)) := by
  obtain ⟨r, h, ns, rfl, l, _⟩ := v_draw sc a m hm
  exact ⟨ns, l, h⟩
theorem treed {ns : List Int} {n : Nat} (hl : n + 1 ≤ ns.length) (hm : n ≤ 100) : ∃ P : List Nat, P.length = n ∧ Par (gv P) n ∧ F__law_tree [lZ ns, nD n] = some (.im (tN P)) := by
  obtain ⟨r, h, P, rfl, l, p⟩ := v_tree hl hm
  exact ⟨P, l, p, h⟩
theorem anyed {ns : List Int} {n : Nat} {R : Int} (hl : n ≤ ns.length) (hm : n ≤ 100) (r1 : 1 ≤ R) (r2 : R ≤ 999) : ∃ ws, OkB n R ws ∧ F__law_any [lZ ns, nD n, .int R] = some (.im (bD R ws)) := by
  obtain ⟨r, h, ws, rfl, O⟩ := v_any hl hm r1 r2
  exact ⟨ws, O, h⟩
theorem ix_lastL {l : List PyData} {d : PyData} : p_ix (.list (l ++ [d])) (.int (-1)) = some (.im d) := by
  show (atI (l ++ [d]) (-1)).map Rs.im = _
  unfold atI ixN
  rw [if_neg (by decide), if_pos (by simp; omega)]
  simp only [List.length_append, List.length_cons, List.length_nil, Option.bind_some]
  rw [show ((-1 : Int) + ((l.length + (0 + 1) : Nat) : Int)).toNat = l.length by omega, List.getElem?_append_right (by simp)]
  simp
/-- heights that are met -/
def Mt (P : List Nat) (hs : List Int) (R : Int) (ws : List (Nat × Int)) (k : Nat) : Prop := ∀ v, 1 ≤ v → v ≤ k → (openRow (gv P) (gv hs) P.length v).length ≤ (gv ws v).1 ∧ (gv ws v).1 ≤ 200 ∧ 1 ≤ R + 1 - (gv ws v).2 ∧ R + 1 - (gv ws v).2 ≤ gv hs v ∧ gv hs v ≤ R
theorem openRow_few {P : List Nat} {hs : List Int} {v : Nat} : (openRow (gv P) (gv hs) P.length v).length ≤ P.length + 1 := by
  unfold openRow opL
  rw [downI_len, List.length_map]
  refine Nat.le_trans (List.length_filter_le _ _) ?_
  rw [List.length_range]
  exact Nat.le_refl _
theorem openRow_some {p : Nat → Nat} {h : Nat → Int} {n v : Nat} (v1 : 1 ≤ v) (v2 : v ≤ n) (par : Par p n) : 1 ≤ (openRow p h n v).length := by
  rw [openRow_eq par v1 v2, List.length_append]
  exact Nat.le_add_left _ _
theorem lx_hd {a b : List Int} (ha : a ≠ []) (h : lx a b) : hd a ≤ hd b := by
  cases a with
  | nil => exact absurd rfl ha
  | cons x xs =>
    cases b with
    | nil => exact h.elim
    | cons y ys =>
      show x ≤ y
      rcases h with h | ⟨h, _⟩ <;> omega
theorem hd_mem {a : List Int} (h : a ≠ []) : hd a ∈ a := by
  cases a with
  | nil => exact absurd rfl h
  | cons x xs => exact List.mem_cons_self
theorem mem_openRow {p : Nat → Nat} {h : Nat → Int} {n v : Nat} (par : Par p n) {x : Int} (m : x ∈ openRow p h n v) : ∃ z, v ≤ z ∧ z ≤ n ∧ x = h z := by
  obtain ⟨z, hz, e⟩ := List.mem_map.mp ((downI_perm _).subset m)
  have q := mem_opL.mp hz
  exact ⟨z, q.2.1, q.1, e.symm⟩
section
variable {P : List Nat} {R : Int} {ws : List (Nat × Int)} {hs : List Int} (M : Mt P hs R ws P.length) (lw : ws.length = P.length) (few : P.length ≤ 100) (par : Par (gv P) P.length) (r1 : 1 ≤ R) (r2 : R ≤ 999)
include M lw few par r1 r2
theorem mt_ok : OkP P R ws := by
  refine ⟨par, few, r1, r2, lw, fun x hx => ?_⟩
  obtain ⟨k, hk, e⟩ := List.getElem_of_mem hx
  have g : gv ws (k + 1) = x := gv_some (by rw [List.getElem?_eq_getElem hk, e])
  have m := M (k + 1) (by omega) (by omega)
  have o := openRow_some (h := gv hs) (v := k + 1) (by omega) (by omega) par
  rw [g] at m
  omega
theorem mt_lx {v : Nat} (v1 : 1 ≤ v) (v2 : v ≤ P.length) : lx (rowP P R ws v) (openRow (gv P) (gv hs) P.length v) := by
  have O := mt_ok M lw few par r1 r2
  exact row_least par (fun v h1 h2 => (O.w h1 h2).1) (fun v h1 h2 => (M v h1 h2).2.2.2.1) (fun v h1 h2 => (M v h1 h2).1) v v2 v1
theorem mt_keep : goesB P R ws = false := by
  have O := mt_ok M lw few par r1 r2
  have e := top_keep O
  have t : topR P R ws ≤ R := by
    refine (maxO_le (by omega)).mpr fun x hx => ?_
    obtain ⟨k, hk, rfl⟩ := List.mem_map.mp hx
    have := List.mem_range.mp hk
    have l := mt_lx M lw few par r1 r2 (v := k + 1) (by omega) (by omega)
    have a := lx_hd (row_ne (k + 1)) l
    have b := hd_mem (a := openRow (gv P) (gv hs) P.length (k + 1)) (List.length_pos_iff.mp (openRow_some (by omega) (by omega) par))
    obtain ⟨z, z1, z2, z3⟩ := mem_openRow par b
    have := (M z (by omega) z2).2.2.2.2
    omega
  rw [decide_eq_true t] at e
  cases q : goesB P R ws with
  | false => rfl
  | true => rw [q] at e; cases e
end
end K15
namespace K15
open PySem PySem.Spec PyProof.Rows L2 DL
theorem notB {e e1 : Ev} {x y : Fe} {b : Bool} (h1 : x e = some (.im (.bool b), e1)) (h2 : y e1 = some (.im (.bool b), e1)) : t_not (t_of (x_call F__law_same [] (a_cons x (a_cons y a_nil)))) e = some (false, e1) := tnot (same_ok h1 h2 True.intro)
theorem mt_more {P : List Nat} {hs : List Int} {R : Int} {ws : List (Nat × Int)} {k w : Nat} {f : Int} (M : Mt P hs R ws k) (l : ws.length = k) (h : (openRow (gv P) (gv hs) P.length (k + 1)).length ≤ w ∧ w ≤ 200 ∧ 1 ≤ f ∧ f ≤ gv hs (k + 1) ∧ gv hs (k + 1) ≤ R) : Mt P hs R (ws ++ [(w, R + 1 - f)]) (k + 1) := by
  intro v h1 h2
  by_cases z : v ≤ k
  · rw [gv_app h1 (by omega)]
    exact M v h1 z
  · have e : v = ws.length + 1 := by omega
    subst e
    rw [gv_last, l]
    show _ ∧ w ≤ 200 ∧ 1 ≤ R + 1 - (R + 1 - f) ∧ R + 1 - (R + 1 - f) ≤ _ ∧ _
    rw [show R + 1 - (R + 1 - f) = f by omega]
    exact h
abbrev opD (P : List Nat) (hs : List Int) (k : Nat) : List PyData := (List.range k).map fun j => tZ (openRow (gv P) (gv hs) P.length (j + 1))
theorem opD_succ {P : List Nat} {hs : List Int} {k : Nat} : opD P hs (k + 1) = opD P hs k ++ [tZ (openRow (gv P) (gv hs) P.length (k + 1))] := by
  unfold opD
  rw [List.range_succ, List.map_append]
  rfl
theorem v_great (sc : List Int) : F__law_great [lZ sc] = some (.im (.bool true)) := by
  refine w_eq rfl ?_
  obtain ⟨fs, fl, hf⟩ := drawn sc 3 8 (by omega)
  refine w_seq (w_setL (callA (aI (vI rfl) (aI cI (aI cI a0))) rfl hf) rfl ?_)
  show wS _ [im (lZ sc), im (lZ fs), none, none, none, none, none, none, none, none, none, none, none, none, none, none, none] _
  obtain ⟨c, hc, c0, c1⟩ := numD (ns := fs) (e := [im (lZ sc), im (lZ fs), none, none, none, none, none, none, none, none, none, none, none, none, none, none, none]) (i := 1) rfl 0 (by omega) (m := 16) (by omega)
  obtain ⟨w, wm, hw⟩ := pick (l := [6, 7, 5, 8, 9, 6, 3, 7, 24, 6, 8, 5, 7, 9, 40, 0]) hc c0 (by simpa using c1) (by simp)
  have w1 : 0 ≤ w ∧ w ≤ 40 := by
    simp only [List.mem_cons, List.not_mem_nil, or_false] at wm
    omega
  obtain ⟨n, hn⟩ : ∃ n : Nat, w = (n : Int) := ⟨w.toNat, by omega⟩
  subst hn
  have n40 : n ≤ 40 := by omega
  refine w_seq (w_setI (d := nD n) hw rfl ?_)
  clear hw hc wm w1 c0 c1 c
  show wS _ [im (lZ sc), im (lZ fs), im (nD n), none, none, none, none, none, none, none, none, none, none, none, none, none, none] _
  obtain ⟨ts, tl, ht⟩ := drawn sc 4 41 (by omega)
  obtain ⟨P, pl, par, hP⟩ := treed (ns := ts) (n := n) (by omega) (by omega)
  refine w_seq (w_setI (callI (aA (callA (aI (vI rfl) (aI cI (aI cI a0))) rfl ht) (aI (vI rfl) a0)) rfl hP) rfl ?_)
  show wS _ [im (lZ sc), im (lZ fs), im (nD n), im (tN P), none, none, none, none, none, none, none, none, none, none, none, none, none] _
  obtain ⟨ps, pl2, hp⟩ := drawn sc 5 40 (by omega)
  refine w_seq (w_setL (callA (aI (vI rfl) (aI cI (aI cI a0))) rfl hp) rfl ?_)
  show wS _ [im (lZ sc), im (lZ fs), im (nD n), im (tN P), im (lZ ps), none, none, none, none, none, none, none, none, none, none, none, none] _
  obtain ⟨c, hc, c0, c1⟩ := numD (ns := fs) (e := [im (lZ sc), im (lZ fs), im (nD n), im (tN P), im (lZ ps), none, none, none, none, none, none, none, none, none, none, none, none]) (i := 1) rfl 1 (by omega) (m := 6) (by omega)
  obtain ⟨mo, wm, hw⟩ := pick (l := [3, 2, 4, 12, 3, 900]) hc c0 (by simpa using c1) (by simp)
  have mo1 : 1 ≤ mo ∧ mo ≤ 900 := by
    simp only [List.mem_cons, List.not_mem_nil, or_false] at wm
    omega
  refine w_seq (w_setI (d := .int mo) hw rfl ?_)
  clear hw hc wm c0 c1 c
  show wS _ [im (lZ sc), im (lZ fs), im (nD n), im (tN P), im (lZ ps), im (.int mo), none, none, none, none, none, none, none, none, none, none, none] _
  obtain ⟨hs, hhs⟩ : ∃ hs : List Int, hs = (List.range n).map fun k => 1 + gv ps (k + 1) % mo := ⟨_, rfl⟩
  have hl : hs.length = n := by rw [hhs, List.length_map, List.length_range]
  have hb : ∀ x ∈ hs, 1 ≤ x ∧ x ≤ 900 := fun x hx => by
    rw [hhs] at hx
    obtain ⟨k, _, rfl⟩ := List.mem_map.mp hx
    have a := Int.emod_nonneg (gv ps (k + 1)) (by omega : mo ≠ 0)
    have b := Int.emod_lt_of_pos (gv ps (k + 1)) (by omega : 0 < mo)
    omega
  have lc := lcA (fi := i_rng1 (x_var 2)) (γ := g_name 14) (fe := x_bin p_add (x_c (.int 1)) (x_bin p_mod (x_cb c_int (a_cons (x_ix (x_var 4) (x_var 14)) a_nil)) (x_var 5))) (vs := [14]) (e := [im (lZ sc), im (lZ fs), im (nD n), im (tN P), im (lZ ps), im (.int mo), none, none, none, none, none, none, none, none, none, none, none]) (List.range n) nD (fun k => .int (1 + gv ps (k + 1) % mo))
    (iRng1 (vI rfl) (by omega)) rfl (by rw [List.length_range]; omega) fun k hk => by
      have := List.mem_range.mp hk
      exact ⟨_, rfl, _, binI cI (binI (cbInt (binI (vI rfl) (vI rfl) (ixzL (f := PyData.int) (l := ps) (i := (k : Int)) (by omega) (by omega)))) (vI rfl) (e_mod (by omega))) e_add, rfl, rfl⟩
  have z1 : (List.range n).map (fun k => PyData.int (1 + gv ps (k + 1) % mo)) = hs.map PyData.int := by rw [hhs, List.map_map]; rfl
  rw [z1] at lc
  clear z1 hhs
  refine w_seq (w_setI (d := tZ hs) (cbT lc) rfl ?_)
  clear lc
  show wS _ [im (lZ sc), im (lZ fs), im (nD n), im (tN P), im (lZ ps), im (.int mo), im (tZ hs), none, none, none, none, none, none, none, none, none, none] _
  obtain ⟨c, hc, c0, c1⟩ := numD (ns := fs) (e := [im (lZ sc), im (lZ fs), im (nD n), im (tN P), im (lZ ps), im (.int mo), im (tZ hs), none, none, none, none, none, none, none, none, none, none]) (i := 1) rfl 2 (by omega) (m := 4) (by omega)
  obtain ⟨R, hR⟩ : ∃ R, R = maxI (1 :: hs) + c := ⟨_, rfl⟩
  have mm := maxI_mem (l := 1 :: hs) (by simp)
  have m9 : maxI (1 :: hs) ≤ 900 := by
    rcases List.mem_cons.mp mm with q | q
    · omega
    · exact (hb _ q).2
  have r1 : 1 ≤ R := by
    have := maxI_ge (l := 1 :: hs) List.mem_cons_self
    omega
  have r2 : R ≤ 999 := by omega
  have rh : ∀ x ∈ hs, x ≤ R := fun x hx => by
    have := maxI_ge (l := 1 :: hs) (List.mem_cons_of_mem _ hx)
    omega
  refine w_seq (w_setI (d := .int R) (binI (cbI1 (d := tZ (1 :: hs)) (binI (tupI (aI cI a0) (by simp)) (vI rfl) (e_catT (by simp; omega))) (maxB_tup (by simp))) hc (by rw [hR]; exact e_add)) rfl ?_)
  clear mm m9 hR hc c0 c1 c
  show wS _ [im (lZ sc), im (lZ fs), im (nD n), im (tN P), im (lZ ps), im (.int mo), im (tZ hs), im (.int R), none, none, none, none, none, none, none, none, none] _
  obtain ⟨ss, sl, hss⟩ := drawn sc 6 40 (by omega)
  refine w_seq (w_setL (callA (aI (vI rfl) (aI cI (aI cI a0))) rfl hss) rfl ?_)
  show wS _ [im (lZ sc), im (lZ fs), im (nD n), im (tN P), im (lZ ps), im (.int mo), im (tZ hs), im (.int R), im (lZ ss), none, none, none, none, none, none, none, none] _
  refine w_seq (w_setA (ds := []) (e1 := [im (lZ sc), im (lZ fs), im (nD n), im (tN P), im (lZ ps), im (.int mo), im (tZ hs), im (.int R), im (lZ ss), none, none, none, none, none, none, none, none]) rfl rfl ?_)
  show wS _ [im (lZ sc), im (lZ fs), im (nD n), im (tN P), im (lZ ps), im (.int mo), im (tZ hs), im (.int R), im (lZ ss), ac [], none, none, none, none, none, none, none] _
  refine w_seq (w_setA (ds := []) (e1 := [im (lZ sc), im (lZ fs), im (nD n), im (tN P), im (lZ ps), im (.int mo), im (tZ hs), im (.int R), im (lZ ss), ac [], none, none, none, none, none, none, none]) rfl rfl ?_)
  show wS _ [im (lZ sc), im (lZ fs), im (nD n), im (tN P), im (lZ ps), im (.int mo), im (tZ hs), im (.int R), im (lZ ss), ac [], ac [], none, none, none, none, none, none] _
  subst pl
  have few : P.length ≤ 100 := by omega
  obtain ⟨J, hJ⟩ : ∃ J : Nat → Ev → Prop, ∀ k e, J k e = (∃ (ws : List (Nat × Int)) (a b : Option Sl), ws.length = k ∧ Mt P hs R ws k ∧ e = [im (lZ sc), im (lZ fs), im (nD P.length), im (tN P), im (lZ ps), im (.int mo), im (tZ hs), im (.int R), im (lZ ss), ac (opD P hs k), ac (ws.map pD), a, none, none, none, none, b]) := ⟨fun k e => _, fun _ _ => rfl⟩
  refine w_seq (w_forN (P.length + 1 - 1) (fun k => nD (1 + k)) J (iRngN (a := 1) (b := P.length) cI (binI (vI rfl) cI e_add) (by omega) (by omega)) (by rw [hJ]; exact ⟨[], none, none, rfl, fun v h1 h2 => by omega, rfl⟩) (fun k hk e h => ?_) fun e h => ?_)
  · rw [hJ] at h
    obtain ⟨ws, a, b, wl, M, rfl⟩ := h
    refine ⟨rfl, _, rfl, ?_⟩
    rw [show 1 + k = k + 1 by omega]
    have v2 : k + 1 ≤ P.length := by omega
    show wS _ [im (lZ sc), im (lZ fs), im (nD P.length), im (tN P), im (lZ ps), im (.int mo), im (tZ hs), im (.int R), im (lZ ss), ac (opD P hs k), ac (ws.map pD), im (nD (k + 1)), none, none, none, none, b] _
    have lo := v_lopen (P := P) (hs := hs) (v := k + 1) (first := 1) par few (Nat.le_refl _) (by omega) v2 (by omega)
    have eo : openRow (gv P) (hF hs 1) P.length (k + 1) = openRow (gv P) (gv hs) P.length (k + 1) := rfl
    rw [eo] at lo
    refine w_seq (w_app (callI (aI (vI rfl) (aI (vI rfl) (aI (vI rfl) (aI cI a0)))) rfl lo) rfl (by rw [List.length_map, List.length_range]; omega) ?_)
    obtain ⟨l, hll⟩ : ∃ l, l = openRow (gv P) (gv hs) P.length (k + 1) := ⟨_, rfl⟩
    have ox : opD P hs (k + 1) = opD P hs k ++ [tZ l] := by rw [hll]; exact opD_succ
    have lf : l.length ≤ P.length + 1 := by rw [hll]; exact openRow_few
    rw [← hll]
    show wS _ [im (lZ sc), im (lZ fs), im (nD P.length), im (tN P), im (lZ ps), im (.int mo), im (tZ hs), im (.int R), im (lZ ss), ac (opD P hs k ++ [tZ l]), ac (ws.map pD), im (nD (k + 1)), none, none, none, none, b] _
    obtain ⟨hv, ehv⟩ : ∃ hv, hv = gv hs (k + 1) := ⟨_, rfl⟩
    have hv1 : 1 ≤ hv := by rw [ehv]; exact (hb _ (gv_mem (by omega) (by omega))).1
    have hvR : hv ≤ R := by rw [ehv]; exact rh _ (gv_mem (by omega) (by omega))
    have ih := ixv (f := PyData.int) (l := hs) (v := k + 1) (by omega) (by omega)
    rw [← ehv] at ih
    refine w_seq (w_setI (d := .int hv) (binI (vI rfl) (binI (vI rfl) cI e_sub) ih) rfl ?_)
    show wS _ [im (lZ sc), im (lZ fs), im (nD P.length), im (tN P), im (lZ ps), im (.int mo), im (tZ hs), im (.int R), im (lZ ss), ac (opD P hs k ++ [tZ l]), ac (ws.map pD), im (nD (k + 1)), none, none, none, none, im (.int hv)] _
    obtain ⟨s, hs'⟩ : ∃ s, s = gv ss (k + 1) := ⟨_, rfl⟩
    have isx : ∀ d : Option Sl, x_ix (x_var 8) (x_bin p_sub (x_var 11) (x_c (.int 1))) [im (lZ sc), im (lZ fs), im (nD P.length), im (tN P), im (lZ ps), im (.int mo), im (tZ hs), im (.int R), im (lZ ss), ac (opD P hs k ++ [tZ l]), ac (ws.map pD), im (nD (k + 1)), none, none, none, none, d] = some (.im (.int s), [im (lZ sc), im (lZ fs), im (nD P.length), im (tN P), im (lZ ps), im (.int mo), im (tZ hs), im (.int R), im (lZ ss), ac (opD P hs k ++ [tZ l]), ac (ws.map pD), im (nD (k + 1)), none, none, none, none, d]) := fun d => by
      refine binI (vI rfl) (binI (vI rfl) cI e_sub) ?_
      have q := ixzL (f := PyData.int) (l := ss) (i := (k : Int)) (by omega) (by omega)
      rw [show ((k + 1 : Nat) : Int) - 1 = (k : Int) by omega, hs']
      exact q
    have rest : ∀ (Q : Fl → Prop) (f : Int), 1 ≤ f → f ≤ hv → (∀ e, J (k + 1) e → Q (.nx e)) → wS (s_seq (s_drop (x_app 10 (x_tup (a_cons (x_bin p_add (x_cb c_len (a_cons (x_ix (x_var 9) (x_neg (x_c (.int 1)))) a_nil)) (x_cb c_int (a_cons (x_bin p_eq (x_bin p_mod (x_cb c_int (a_cons (x_bin p_div (x_ix (x_var 8) (x_bin p_sub (x_var 11) (x_c (.int 1)))) (x_c (.int 9))) a_nil)) (x_c (.int 5))) (x_c (.int 4))) a_nil))) (a_cons (x_bin p_sub (x_bin p_add (x_var 7) (x_c (.int 1))) (x_var 16)) a_nil))))) s_nx)
        [im (lZ sc), im (lZ fs), im (nD P.length), im (tN P), im (lZ ps), im (.int mo), im (tZ hs), im (.int R), im (lZ ss), ac (opD P hs k ++ [tZ l]), ac (ws.map pD), im (nD (k + 1)), none, none, none, none, im (.int f)] Q := fun Q f f1 f2 q => by
      obtain ⟨g, hg⟩ : ∃ g, g = (if decide (s / 9 % 5 = 4) = true then 1 else 0 : Int) := ⟨_, rfl⟩
      have g2 : 0 ≤ g ∧ g ≤ 1 := by rw [hg]; split <;> omega
      have il : c_int [.bool (decide (s / 9 % 5 = 4))] = some (.im (.int g)) := by rw [hg]; rfl
      have el : x_tup (a_cons (x_bin p_add (x_cb c_len (a_cons (x_ix (x_var 9) (x_neg (x_c (.int 1)))) a_nil)) (x_cb c_int (a_cons (x_bin p_eq (x_bin p_mod (x_cb c_int (a_cons (x_bin p_div (x_ix (x_var 8) (x_bin p_sub (x_var 11) (x_c (.int 1)))) (x_c (.int 9))) a_nil)) (x_c (.int 5))) (x_c (.int 4))) a_nil))) (a_cons (x_bin p_sub (x_bin p_add (x_var 7) (x_c (.int 1))) (x_var 16)) a_nil))
          [im (lZ sc), im (lZ fs), im (nD P.length), im (tN P), im (lZ ps), im (.int mo), im (tZ hs), im (.int R), im (lZ ss), ac (opD P hs k ++ [tZ l]), ac (ws.map pD), im (nD (k + 1)), none, none, none, none, im (.int f)] = some (.im (.tuple [.int (((l.map PyData.int).length : Int) + g), .int (R + 1 - f)]), [im (lZ sc), im (lZ fs), im (nD P.length), im (tN P), im (lZ ps), im (.int mo), im (tZ hs), im (.int R), im (lZ ss), ac (opD P hs k ++ [tZ l]), ac (ws.map pD), im (nD (k + 1)), none, none, none, none, im (.int f)]) :=
        tupI (aI (binI (cbLen (.inr (.inr (binV rfl (negI cI) ix_lastL)))) (cbI1 (binI (binI (cbInt (binI (isx _) cI (e_div (by omega) (by omega)))) cI (e_mod (by omega))) cI e_eq) il) e_add) (aI (binI (binI (vI rfl) cI e_add) (vI rfl) e_sub) a0)) (by simp)
      refine w_seq (w_app el rfl (by rw [List.length_map, wl]; omega) ?_)
      show wS s_nx [im (lZ sc), im (lZ fs), im (nD P.length), im (tN P), im (lZ ps), im (.int mo), im (tZ hs), im (.int R), im (lZ ss), ac (opD P hs k ++ [tZ l]), ac (ws.map pD ++ [.tuple [.int (((l.map PyData.int).length : Int) + g), .int (R + 1 - f)]]), im (nD (k + 1)), none, none, none, none, im (.int f)] _
      refine w_nx (q _ ?_)
      rw [hJ]
      have ep : pD (((l.length : Int) + g).toNat, R + 1 - f) = .tuple [.int (((l.map PyData.int).length : Int) + g), .int (R + 1 - f)] := by
        unfold pD nD
        dsimp only
        rw [List.length_map, show ((((l.length : Int) + g).toNat : Nat) : Int) = (l.length : Int) + g by omega]
      refine ⟨ws ++ [(((l.length : Int) + g).toNat, R + 1 - f)], im (nD (k + 1)), im (.int f), by rw [List.length_append, wl]; rfl, mt_more M wl ?_, ?_⟩
      · rw [← hll, ← ehv]
        omega
      · rw [List.map_append, List.map_cons, List.map_nil, ep, ox]
    have q3 : 0 ≤ s / 3 % hv := Int.emod_nonneg _ (by omega)
    have q4 : s / 3 % hv < hv := Int.emod_lt_of_pos _ (by omega)
    refine w_seq (w_if (bang (binI (binI (cbInt (isx _)) cI (e_mod (by omega))) cI e_eq)) (fun _ => ?_) fun _ => w_nx ?_)
    · refine w_setI (d := .int (1 + s / 3 % hv)) (binI cI (binI (cbInt (binI (isx _) cI (e_div (by omega) (by omega)))) (vI rfl) (e_mod (by omega))) e_add) rfl ?_
      exact rest _ _ (by omega) (by omega) fun e h => h
    · exact rest _ _ (by omega) (Int.le_refl _) fun e h => h
  · rw [hJ] at h
    obtain ⟨ws, a, b, wl, M, rfl⟩ := h
    rw [show P.length + 1 - 1 = P.length by omega] at wl M ⊢
    have O := mt_ok M wl few par r1 r2
    show wS _ [im (lZ sc), im (lZ fs), im (nD P.length), im (tN P), im (lZ ps), im (.int mo), im (tZ hs), im (.int R), im (lZ ss), ac (opD P hs P.length), ac (ws.map pD), a, none, none, none, none, b] _
    refine w_seq (w_setI (d := bD R ws) (tupI (aI (vI rfl) (aI (cbTv rfl) a0)) (by simp)) rfl ?_)
    show wS _ [im (lZ sc), im (lZ fs), im (nD P.length), im (tN P), im (lZ ps), im (.int mo), im (tZ hs), im (.int R), im (lZ ss), ac (opD P hs P.length), ac (ws.map pD), a, im (bD R ws), none, none, none, b] _
    obtain ⟨c3, hc3⟩ := numAt (ns := fs) (e := [im (lZ sc), im (lZ fs), im (nD P.length), im (tN P), im (lZ ps), im (.int mo), im (tZ hs), im (.int R), im (lZ ss), ac (opD P hs P.length), ac (ws.map pD), a, im (bD R ws), none, none, none, b]) (i := 1) rfl 3 (by omega)
    have vc := v_can_keep O
    rw [mt_keep M wl few par r1 r2] at vc
    refine w_seq (w_ifF (torF (tnot (bang (callI (aI (vI rfl) (aI (vI rfl) (aI hc3 a0))) rfl (v_told O c3)))) (notB (b := true) (callI (aI (vI rfl) (aI (vI rfl) a0)) rfl vc) cI)) (w_nx ?_))
    show wS _ [im (lZ sc), im (lZ fs), im (nD P.length), im (tN P), im (lZ ps), im (.int mo), im (tZ hs), im (.int R), im (lZ ss), ac (opD P hs P.length), ac (ws.map pD), a, im (bD R ws), none, none, none, b] _
    refine w_seq (w_setI (d := rowsD P R ws) (callI (aI (vI rfl) (aI (vI rfl) a0)) rfl (v_rows_of O)) rfl ?_)
    show wS _ [im (lZ sc), im (lZ fs), im (nD P.length), im (tN P), im (lZ ps), im (.int mo), im (tZ hs), im (.int R), im (lZ ss), ac (opD P hs P.length), ac (ws.map pD), a, im (bD R ws), im (rowsD P R ws), none, none, b] _
    obtain ⟨J2, hJ2⟩ : ∃ J : Nat → Ev → Prop, ∀ k e, J k e = (∃ (d : Option Sl), e = [im (lZ sc), im (lZ fs), im (nD P.length), im (tN P), im (lZ ps), im (.int mo), im (tZ hs), im (.int R), im (lZ ss), ac (opD P hs P.length), ac (ws.map pD), a, im (bD R ws), im (rowsD P R ws), d, none, b]) := ⟨fun k e => _, fun _ _ => rfl⟩
    refine w_seq (w_forN P.length nD J2 (iRng1 (vI rfl) (by omega)) (by rw [hJ2]; exact ⟨_, rfl⟩) (fun k hk e h => ?_) fun e h => ?_)
    · rw [hJ2] at h
      obtain ⟨d, rfl⟩ := h
      refine ⟨rfl, _, rfl, ?_⟩
      show wS _ [im (lZ sc), im (lZ fs), im (nD P.length), im (tN P), im (lZ ps), im (.int mo), im (tZ hs), im (.int R), im (lZ ss), ac (opD P hs P.length), ac (ws.map pD), a, im (bD R ws), im (rowsD P R ws), im (nD k), none, b] _
      have i1 : p_ix (rowsD P R ws) (nD k) = some (.im (tZ (rowP P R ws (k + 1)))) := by
        refine e_ixT ?_
        rw [List.getElem?_map, List.getElem?_range hk]
        rfl
      have i2 : p_ix (.list (opD P hs P.length)) (nD k) = some (.im (tZ (openRow (gv P) (gv hs) P.length (k + 1)))) := by
        refine e_ixL ?_
        rw [List.getElem?_map, List.getElem?_range hk]
        rfl
      have nl := lx_not (mt_lx M wl few par r1 r2 (v := k + 1) (by omega) (by omega))
      refine w_ifF (bang (binI (binI (vI rfl) (vI rfl) i1) (binV rfl (vI rfl) i2) (by rw [e_gtT, decide_eq_false nl]))) (w_nx ?_)
      show J2 (k + 1) _
      rw [hJ2]
      exact ⟨_, rfl⟩
    · rw [hJ2] at h
      obtain ⟨d, rfl⟩ := h
      show wS _ [im (lZ sc), im (lZ fs), im (nD P.length), im (tN P), im (lZ ps), im (.int mo), im (tZ hs), im (.int R), im (lZ ss), ac (opD P hs P.length), ac (ws.map pD), a, im (bD R ws), im (rowsD P R ws), d, none, b] _
      obtain ⟨os, ol, ho⟩ := drawn sc 7 40 (by omega)
      obtain ⟨c, hc, c0, c1⟩ := numD (ns := fs) (e := [im (lZ sc), im (lZ fs), im (nD P.length), im (tN P), im (lZ ps), im (.int mo), im (tZ hs), im (.int R), im (lZ ss), ac (opD P hs P.length), ac (ws.map pD), a, im (bD R ws), im (rowsD P R ws), d, none, b]) (i := 1) rfl 4 (by omega) (m := 8) (by omega)
      obtain ⟨w, wm, hw⟩ := pick (l := [2, 3, 5, 9, 4, 999, 1, 40]) hc c0 (by simpa using c1) (by simp)
      have w1 : 1 ≤ w ∧ w ≤ 999 := by
        simp only [List.mem_cons, List.not_mem_nil, or_false] at wm
        omega
      obtain ⟨us, OU, hu⟩ := anyed (ns := os) (n := P.length) (R := w) (by omega) few w1.1 w1.2
      refine w_seq (w_setI (d := bD w us) (callI (aA (callA (aI (vI rfl) (aI cI (aI cI a0))) rfl ho) (aI (vI rfl) (aI hw a0))) rfl hu) rfl ?_)
      show wS _ [im (lZ sc), im (lZ fs), im (nD P.length), im (tN P), im (lZ ps), im (.int mo), im (tZ hs), im (.int R), im (lZ ss), ac (opD P hs P.length), ac (ws.map pD), a, im (bD R ws), im (rowsD P R ws), d, im (bD w us), b] _
      obtain ⟨c5, hc5⟩ := numAt (ns := fs) (e := [im (lZ sc), im (lZ fs), im (nD P.length), im (tN P), im (lZ ps), im (.int mo), im (tZ hs), im (.int R), im (lZ ss), ac (opD P hs P.length), ac (ws.map pD), a, im (bD R ws), im (rowsD P R ws), d, im (bD w us), b]) (i := 1) rfl 5 (by omega)
      have O2 : OkP P w us := ⟨par, few, OU⟩
      exact w_seq (w_ret (callI (aI (vI rfl) (aI (vI rfl) (aI hc5 a0))) rfl (v_told O2 c5)) ⟨_, rfl, rfl⟩)
end K15
namespace K15
open PySem PySem.Spec PyProof.Rows L2 DL
/-! ### the small ones: all states -/
theorem filt_one {α : Type} {p : α → Bool} {a : α} : ∀ {l : List α}, l.Nodup → a ∈ l → (∀ x ∈ l, p x = true ↔ x = a) → (l.filter p).length = 1
  | [], _, m, _ => (List.not_mem_nil m).elim
  | b :: l, nd, m, h => by
    have nd2 := List.pairwise_cons.mp nd
    by_cases z : b = a
    · have none : l.filter p = [] := List.filter_eq_nil_iff.mpr fun x hx q => nd2.1 x hx (z.trans ((h x (List.mem_cons_of_mem _ hx)).mp q).symm)
      rw [List.filter_cons_of_pos ((h b List.mem_cons_self).mpr z), none]
      rfl
    · have m2 : a ∈ l := by
        rcases List.mem_cons.mp m with e | e
        · exact absurd e.symm z
        · exact e
      rw [List.filter_cons_of_neg fun q => z ((h b List.mem_cons_self).mp q)]
      exact filt_one nd2.2 m2 fun x hx => h x (List.mem_cons_of_mem _ hx)
theorem minB_row {L : List (List Int)} {r : List Int} (m : r ∈ L) (lo : ∀ y ∈ L, lx r y) : c_minB [.list (L.map tZ)] = some (.im (tZ r)) := by
  cases L with
  | nil => exact (List.not_mem_nil m).elim
  | cons x xs =>
    rw [minB_tups]
    have a := minT_le xs x r m
    have b := List.not_lt.mp (lx_not (lo _ (minT_mem xs x)))
    rw [List.le_antisymm a b]
section
variable {P : List Nat} {R most : Int} {ws : List (Nat × Int)} (O : OkP P R ws) (m0 : 0 ≤ most)
abbrev stL (P : List Nat) (R : Int) (ws : List (Nat × Int)) (most : Int) : List St' := sttP P R ws most P.length
abbrev rws (P : List Nat) (R : Int) (ws : List (Nat × Int)) : List (List Int) := (List.range P.length).map fun k => rowP P R ws (k + 1)
include O m0
omit m0 in
theorem mem_stL (s : St') : s ∈ stL P R ws most ↔ ∃ h, s = (hl h P.length 1, rl (gv P) h P.length 1) ∧ Let (gv P) (Wf ws) (Ff R ws) P.length most 1 h := by
  have q := mem_stt (W := Wf ws) (F := Ff R ws) (most := most) O.par P.length (Nat.le_refl _) s
  rw [show P.length + 1 - P.length = 1 by omega] at q
  exact q
omit m0 in
theorem st_lx {h : Nat → Int} (L : Let (gv P) (Wf ws) (Ff R ws) P.length most 1 h) {v : Nat} (v1 : 1 ≤ v) (v2 : v ≤ P.length) : lx (rowP P R ws v) (openRow (gv P) h P.length v) :=
  row_least O.par (fun v h1 h2 => (O.w h1 h2).1) (fun v h1 h2 => (L v h1 h2).1) (fun v h1 h2 => (L v h1 h2).2.2) v v2 v1
omit O m0 in
theorem mem_hl {h : Nat → Int} {n : Nat} {z : Nat} (z1 : 1 ≤ z) (z2 : z ≤ n) : h z ∈ hl h n 1 := by
  refine List.mem_map.mpr ⟨z - 1, List.mem_range.mpr (by omega), ?_⟩
  rw [show 1 + (z - 1) = z by omega]
omit O m0 in
theorem hl_mem {h : Nat → Int} {n : Nat} {x : Int} (m : x ∈ hl h n 1) : ∃ z, 1 ≤ z ∧ z ≤ n ∧ x = h z := by
  obtain ⟨k, hk, e⟩ := List.mem_map.mp m
  have := List.mem_range.mp hk
  exact ⟨1 + k, by omega, by omega, e.symm⟩
/-- a state with no height above t: nor are the walk's -/
theorem st_top {s : St'} (hs : s ∈ stL P R ws most) {t : Int} (t0 : 0 ≤ t) (ht : ∀ x ∈ s.1, x ≤ t) : topR P R ws ≤ t := by
  obtain ⟨h, rfl, L⟩ := (mem_stL O s).mp hs
  refine (maxO_le t0).mpr fun x hx => ?_
  obtain ⟨k, hk, rfl⟩ := List.mem_map.mp hx
  have := List.mem_range.mp hk
  have l := st_lx O L (v := k + 1) (by omega) (by omega)
  have a := lx_hd (row_ne (k + 1)) l
  have b := hd_mem (a := openRow (gv P) h P.length (k + 1)) (List.length_pos_iff.mp (openRow_some (by omega) (by omega) O.par))
  obtain ⟨z, z1, z2, z3⟩ := mem_openRow O.par b
  have := ht _ (mem_hl (h := h) (n := P.length) (z := z) (by omega) z2)
  omega
omit O m0 in
theorem hts_hl : hts P R ws = hl (hgt P R ws) P.length 1 := by
  unfold hl
  rw [show P.length + 1 - 1 = P.length by omega]
  refine List.map_congr_left fun k _ => ?_
  rw [Nat.add_comm]
omit m0 in
theorem rws_rl : rws P R ws = rl (gv P) (hgt P R ws) P.length 1 := by
  unfold rl
  rw [show P.length + 1 - 1 = P.length by omega]
  refine List.map_congr_left fun k hk => ?_
  have := List.mem_range.mp hk
  rw [Nat.add_comm 1 k, row_is_open O (by omega) (by omega)]
  exact openRow_congr O.par fun u u1 u2 => hts_at (by omega) u2
omit m0 in
theorem hgt_top {v : Nat} (v1 : 1 ≤ v) (v2 : v ≤ P.length) : hgt P R ws v ≤ topR P R ws := by
  have a := hd_ge O v1 v2
  have tp : maxI (0 :: hds P R ws) = topR P R ws := maxO_zero (hds_pos O)
  have b := maxI_ge (l := 0 :: hds P R ws) (x := hd (rowP P R ws v)) (List.mem_cons_of_mem _ (List.mem_map.mpr ⟨v - 1, List.mem_range.mpr (by omega), by rw [show v - 1 + 1 = v by omega]⟩))
  omega
omit m0 in
theorem st_walk (h : topR P R ws ≤ most) : (hts P R ws, rws P R ws) ∈ stL P R ws most := by
  refine (mem_stL O _).mpr ⟨hgt P R ws, by rw [hts_hl, rws_rl O], fun z z1 z2 => ⟨sh_ge, Int.le_trans (hgt_top O z1 z2) h, ?_⟩⟩
  have e : rowP P R ws z = openRow (gv P) (hgt P R ws) P.length z := by
    rw [row_is_open O z1 z2]
    exact openRow_congr O.par fun u u1 u2 => hts_at (by omega) u2
  rw [← e]
  exact row_few O.par (O.w z1 z2).1
omit O m0 in
theorem hts_le {t : Int} (h : ∀ v, 1 ≤ v → v ≤ P.length → hgt P R ws v ≤ t) : ∀ x ∈ hts P R ws, x ≤ t := fun x hx => by
  obtain ⟨k, hk, rfl⟩ := List.mem_map.mp hx
  have := List.mem_range.mp hk
  exact h _ (by omega) (by omega)
omit m0 in
theorem st_le {s : St'} (hs : s ∈ stL P R ws most) : ∀ x ∈ s.1, x ≤ most := by
  obtain ⟨h, rfl, L⟩ := (mem_stL O s).mp hs
  intro x hx
  obtain ⟨z, z1, z2, rfl⟩ := hl_mem hx
  exact (L z z1 z2).2.1
/-- there are states if and only if the walk is one -/
theorem st_any : stL P R ws most ≠ [] ↔ topR P R ws ≤ most := by
  constructor
  · intro h
    obtain ⟨s, hs⟩ := List.exists_mem_of_ne_nil _ h
    exact st_top O m0 hs m0 (st_le O hs)
  · intro h e
    have := st_walk O h
    rw [e] at this
    exact List.not_mem_nil this
omit m0 in
theorem st_keep (hR : R ≤ most) : (!goesB P R ws) = decide (0 < ((stL P R ws most).filter fun s => decide (maxI (1 :: s.1) ≤ R)).length) := by
  have r1 := O.b.r1
  rw [top_keep O]
  have e : topR P R ws ≤ R ↔ 0 < ((stL P R ws most).filter fun s => decide (maxI (1 :: s.1) ≤ R)).length := by
    constructor
    · intro h
      refine List.length_pos_iff.mpr (List.ne_nil_of_mem (List.mem_filter.mpr ⟨st_walk O (Int.le_trans h hR), decide_eq_true ?_⟩))
      have m := maxI_mem (l := 1 :: hts P R ws) (by simp)
      rcases List.mem_cons.mp m with q | q
      · show maxI (1 :: hts P R ws) ≤ R
        omega
      · exact hts_le (fun v v1 v2 => Int.le_trans (hgt_top O v1 v2) h) _ q
    · intro h
      obtain ⟨s, hs⟩ := List.exists_mem_of_ne_nil _ (List.length_pos_iff.mp h)
      have hs2 := List.mem_filter.mp hs
      have le := of_decide_eq_true hs2.2
      refine st_top O (by omega) hs2.1 (by omega) fun x hx => ?_
      have := maxI_ge (l := 1 :: s.1) (List.mem_cons_of_mem _ hx)
      omega
  by_cases z : topR P R ws ≤ R
  · rw [decide_eq_true z, decide_eq_true (e.mp z)]
  · rw [decide_eq_false z, decide_eq_false fun y => z (e.mpr y)]
omit m0 in
theorem st_len {s : St'} (hs : s ∈ stL P R ws most) : s.1.length = P.length ∧ s.2.length = P.length := by
  obtain ⟨h, rfl, _⟩ := (mem_stL O s).mp hs
  unfold hl rl
  rw [List.length_map, List.length_map, List.length_range]
  exact ⟨by omega, by omega⟩
omit m0 in
theorem st_min (h : topR P R ws ≤ most) {v : Nat} (hv : v < P.length) : c_minB [.list (((stL P R ws most).map fun s => gv s.2 (v + 1)).map tZ)] = some (.im (tZ (rowP P R ws (v + 1)))) := by
  have at_ : ∀ g : Nat → Int, gv (rl (gv P) g P.length 1) (v + 1) = openRow (gv P) g P.length (v + 1) := fun g => gv_some (by
    unfold rl
    rw [List.getElem?_map, List.getElem?_range (by omega)]
    show some (openRow (gv P) g P.length (1 + v)) = _
    rw [Nat.add_comm])
  refine minB_row (List.mem_map.mpr ⟨_, st_walk O h, ?_⟩) fun y hy => ?_
  · exact gv_some (by
      show (rws P R ws)[v]? = _
      rw [List.getElem?_map, List.getElem?_range hv]
      rfl)
  · obtain ⟨s, hs, rfl⟩ := List.mem_map.mp hy
    obtain ⟨g, rfl, L⟩ := (mem_stL O s).mp hs
    show lx _ (gv (rl (gv P) g P.length 1) (v + 1))
    rw [at_]
    exact st_lx O L (by omega) (by omega)
omit m0 in
theorem st_one (h : topR P R ws ≤ most) : ((stL P R ws most).filter fun s => decide (s.1 = hts P R ws) && decide (s.2 = rws P R ws)).length = 1 := by
  refine filt_one (nodup_stt _) (st_walk O h) fun x _ => ?_
  rw [Bool.and_eq_true, decide_eq_true_eq, decide_eq_true_eq]
  constructor
  · rintro ⟨a, b⟩
    exact Prod.ext a b
  · rintro rfl
    exact ⟨rfl, rfl⟩
end
end K15
namespace K15
open PySem PySem.Spec PyProof.Rows L2 DL
theorem isiI {x : Fe} {e e1 : Ev} {i : Int} (h : x e = some (.im (.int i), e1)) : x_isi .int x e = some (.im (.bool true), e1) := by
  rw [r_x_isi, h]
  rfl
theorem isiB {x : Fe} {e e1 : Ev} {i : Int} (h : x e = some (.im (.int i), e1)) : x_isi .bool x e = some (.im (.bool false), e1) := by
  rw [r_x_isi, h]
  rfl
theorem notI {x : Fe} {e e1 : Ev} {b : Bool} (h : x e = some (.im (.bool b), e1)) : x_not x e = some (.im (.bool !b), e1) := by
  rw [r_x_not, h]
theorem v_small (sc : List Int) : F__law_small [lZ sc] = some (.im (.bool true)) := by
  refine w_eq rfl ?_
  obtain ⟨fs, fl, hf⟩ := drawn sc 0 5 (by omega)
  refine w_seq (w_setL (callA (aI (vI rfl) (aI cI (aI cI a0))) rfl hf) rfl ?_)
  show wS _ [im (lZ sc), im (lZ fs), none, none, none, none, none, none, none, none, none, none, none, none, none, none] _
  obtain ⟨c, hc, c0, c1⟩ := numD (ns := fs) (e := [im (lZ sc), im (lZ fs), none, none, none, none, none, none, none, none, none, none, none, none, none, none]) (i := 1) rfl 0 (by omega) (m := 12) (by omega)
  obtain ⟨w, wm, hw⟩ := pick (l := [3, 4, 2, 5, 4, 3, 4, 1, 5, 4, 0, 3]) hc c0 (by simpa using c1) (by simp)
  have w1 : 0 ≤ w ∧ w ≤ 5 := by
    simp only [List.mem_cons, List.not_mem_nil, or_false] at wm
    omega
  obtain ⟨n, hn⟩ : ∃ n : Nat, w = (n : Int) := ⟨w.toNat, by omega⟩
  subst hn
  have n5 : n ≤ 5 := by omega
  refine w_seq (w_setI (d := nD n) hw rfl ?_)
  clear hw hc wm w1 c0 c1 c
  show wS _ [im (lZ sc), im (lZ fs), im (nD n), none, none, none, none, none, none, none, none, none, none, none, none, none] _
  obtain ⟨ts, tl, ht⟩ := drawn sc 1 6 (by omega)
  obtain ⟨P, pl, par, hP⟩ := treed (ns := ts) (n := n) (by omega) (by omega)
  subst pl
  refine w_seq (w_setI (callI (aA (callA (aI (vI rfl) (aI cI (aI cI a0))) rfl ht) (aI (vI rfl) a0)) rfl hP) rfl ?_)
  show wS _ [im (lZ sc), im (lZ fs), im (nD P.length), im (tN P), none, none, none, none, none, none, none, none, none, none, none, none] _
  obtain ⟨li, lm, hli⟩ := pick (l := [5, 5, 5, 5, 4, 3]) (x := x_var 2) (e := [im (lZ sc), im (lZ fs), im (nD P.length), im (tN P), none, none, none, none, none, none, none, none, none, none, none, none]) (i := (P.length : Int)) (vI rfl) (by omega) (by simp; omega) (by simp)
  have li1 : 3 ≤ li ∧ li ≤ 5 := by
    simp only [List.mem_cons, List.not_mem_nil, or_false] at lm
    omega
  refine w_seq (w_setI (d := .int li) hli rfl ?_)
  clear hli lm
  show wS _ [im (lZ sc), im (lZ fs), im (nD P.length), im (tN P), im (.int li), none, none, none, none, none, none, none, none, none, none, none] _
  obtain ⟨c, hc⟩ := numAt (ns := fs) (e := [im (lZ sc), im (lZ fs), im (nD P.length), im (tN P), im (.int li), none, none, none, none, none, none, none, none, none, none, none]) (i := 1) rfl 1 (by omega)
  obtain ⟨R, hR⟩ : ∃ R, R = 1 + c % (min 4 li) := ⟨_, rfl⟩
  have R1 : 0 ≤ c % (min 4 li) := Int.emod_nonneg _ (by omega)
  have R2 : c % (min 4 li) < min 4 li := Int.emod_lt_of_pos _ (by omega)
  refine w_seq (w_setI (d := .int R) (binI cI (binI (cbInt hc) (cbI2 cI (vI rfl) n_min2) (e_mod (by omega))) (by rw [hR]; exact e_add)) rfl ?_)
  have r1 : 1 ≤ R := by omega
  have rl4 : R ≤ li ∧ R ≤ 4 := by omega
  clear R1 R2 hR hc c
  show wS _ [im (lZ sc), im (lZ fs), im (nD P.length), im (tN P), im (.int li), im (.int R), none, none, none, none, none, none, none, none, none, none] _
  obtain ⟨os, ol, ho⟩ := drawn sc 2 6 (by omega)
  obtain ⟨ws, OB, hu⟩ := anyed (ns := os) (n := P.length) (R := R) (by omega) (by omega) r1 (by omega)
  refine w_seq (w_setI (d := bD R ws) (callI (aA (callA (aI (vI rfl) (aI cI (aI cI a0))) rfl ho) (aI (vI rfl) (aI (vI rfl) a0))) rfl hu) rfl ?_)
  show wS _ [im (lZ sc), im (lZ fs), im (nD P.length), im (tN P), im (.int li), im (.int R), im (bD R ws), none, none, none, none, none, none, none, none, none] _
  have O : OkP P R ws := ⟨par, by omega, OB⟩
  obtain ⟨c, hc, c0, c1⟩ := numD (ns := fs) (e := [im (lZ sc), im (lZ fs), im (nD P.length), im (tN P), im (.int li), im (.int R), im (bD R ws), none, none, none, none, none, none, none, none, none]) (i := 1) rfl 2 (by omega) (m := 2) (by omega)
  obtain ⟨most, hmo⟩ : ∃ most, most = min li (R + c) := ⟨_, rfl⟩
  refine w_seq (w_setI (d := .int most) (cbI2 (vI rfl) (binI (vI rfl) hc e_add) (by rw [hmo]; exact n_min2)) rfl ?_)
  have m5 : most ≤ 5 := by omega
  have mR : R ≤ most := by omega
  have m0 : 0 ≤ most := by omega
  clear hc hmo c0 c1 c
  show wS _ [im (lZ sc), im (lZ fs), im (nD P.length), im (tN P), im (.int li), im (.int R), im (bD R ws), im (.int most), none, none, none, none, none, none, none, none] _
  refine w_seq (w_setI (callI (aI (vI rfl) (aI (vI rfl) (aI (vI rfl) a0))) rfl (v_lheights O n5 m5 m0)) rfl ?_)
  obtain ⟨sl, hsl⟩ : ∃ sl, sl = stL P R ws most := ⟨_, rfl⟩
  have few : sl.length ≤ 3125 := by rw [hsl]; exact stt_few O n5 m5 m0 (Nat.le_refl _)
  have sl1 : ∀ s ∈ sl, s.1.length = P.length ∧ s.2.length = P.length := fun s hs => by rw [hsl] at hs; exact st_len O hs
  rw [show sttP P R ws most P.length = sl from hsl.symm]
  show wS _ [im (lZ sc), im (lZ fs), im (nD P.length), im (tN P), im (.int li), im (.int R), im (bD R ws), im (.int most), im (.list (sl.map enS)), none, none, none, none, none, none, none] _
  refine w_seq (w_setI (d := .int (topR P R ws)) (callI (aI (vI rfl) (aI (vI rfl) a0)) rfl (v_top_of O)) rfl ?_)
  show wS _ [im (lZ sc), im (lZ fs), im (nD P.length), im (tN P), im (.int li), im (.int R), im (bD R ws), im (.int most), im (.list (sl.map enS)), im (.int (topR P R ws)), none, none, none, none, none, none] _
  have i0 : ∀ s : St', p_ix (enS s) (.int 0) = some (.im (tZ s.1)) := fun _ => rfl
  have i1 : ∀ s : St', p_ix (enS s) (.int 1) = some (.im (.tuple (s.2.map tZ))) := fun _ => rfl
  have lc := lcT (fi := i_seq (x_var 8)) (γ := g_name 13) (tst := t_of (x_bin q_le (x_cb c_maxB (a_cons (x_bin p_add (x_tup (a_cons (x_c (.int 1)) a_nil)) (x_ix (x_var 13) (x_c (.int 0)))) a_nil)) (x_var 5))) (fe := x_var 13) (vs := [13]) (e := [im (lZ sc), im (lZ fs), im (nD P.length), im (tN P), im (.int li), im (.int R), im (bD R ws), im (.int most), im (.list (sl.map enS)), im (.int (topR P R ws)), none, none, none, none, none, none]) sl enS (fun s => decide (maxI (1 :: s.1) ≤ R)) enS
    (iseqL (vI rfl)) rfl (by omega) fun s hs => ⟨_, rfl, _, bang (binI (cbI1 (d := tZ (1 :: s.1)) (binI (tupI (aI cI a0) (by simp)) (binI (vI rfl) cI (i0 s)) (e_catT (a := [.int 1]) (b := s.1.map PyData.int) (by have := sl1 s hs; simp; omega))) (maxB_tup (by simp))) (vI rfl) e_qle), rfl, fun _ => ⟨_, vI rfl, rfl, rfl⟩⟩
  obtain ⟨wi, hwi⟩ : ∃ wi, wi = sl.filter fun s => decide (maxI (1 :: s.1) ≤ R) := ⟨_, rfl⟩
  rw [← hwi] at lc
  refine w_seq (w_setL lc rfl ?_)
  clear lc
  show wS _ [im (lZ sc), im (lZ fs), im (nD P.length), im (tN P), im (.int li), im (.int R), im (bD R ws), im (.int most), im (.list (sl.map enS)), im (.int (topR P R ws)), im (.list (wi.map enS)), none, none, none, none, none] _
  have vc := v_can_keep O
  rw [st_keep O mR, ← hsl, ← hwi] at vc
  have lw : decide ((0 : Int) < ((wi.map enS).length : Nat)) = decide (0 < wi.length) := by
    rw [List.length_map]
    by_cases z : 0 < wi.length
    · rw [decide_eq_true z, decide_eq_true (by omega)]
    · rw [decide_eq_false z, decide_eq_false (by omega)]
  refine w_seq (w_ifF (notB (b := decide (0 < wi.length)) (callI (aI (vI rfl) (aI (vI rfl) a0)) rfl vc) (binI (cbLen (.inr (.inl (vI rfl)))) cI (by rw [e_qgt, lw]))) (w_nx ?_))
  show wS _ [im (lZ sc), im (lZ fs), im (nD P.length), im (tN P), im (.int li), im (.int R), im (bD R ws), im (.int most), im (.list (sl.map enS)), im (.int (topR P R ws)), im (.list (wi.map enS)), none, none, none, none, none] _
  refine w_seq (w_if (bang (binI (cbLen (.inr (.inl (vI rfl)))) cI e_eq)) (fun hb => ?_) fun hb => w_nx ?_)
  · have z := of_decide_eq_true hb
    rw [List.length_map] at z
    have ez : stL P R ws most = [] := by rw [← hsl]; exact List.length_eq_zero_iff.mp (by omega)
    have tm : most < topR P R ws := by
      refine Int.not_le.mp fun y => ?_
      exact (st_any O m0).mpr y ez
    exact w_ret (r := .im (.bool true)) (andT (isiI (vI rfl)) (andT (notI (isiB (vI rfl))) (binI (vI rfl) (vI rfl) (by rw [e_qgt, decide_eq_true tm])))) ⟨_, rfl, rfl⟩
  · have z := of_decide_eq_false hb
    rw [List.length_map] at z
    have ez : stL P R ws most ≠ [] := by
      rw [← hsl]
      intro y
      rw [y] at z
      exact z rfl
    have tm := (st_any O m0).mp ez
    clear hb z ez vc lw
    show wS _ [im (lZ sc), im (lZ fs), im (nD P.length), im (tN P), im (.int li), im (.int R), im (bD R ws), im (.int most), im (.list (sl.map enS)), im (.int (topR P R ws)), im (.list (wi.map enS)), none, none, none, none, none] _
    have lc := lcA (fi := i_rng1 (x_var 2)) (γ := g_name 14) (fe := x_cb c_minB (a_cons (x_lc (i_seq (x_var 8)) (g_name 13) t_yes (x_ix (x_ix (x_var 13) (x_c (.int 1))) (x_var 14)) [13]) a_nil)) (vs := [14]) (e := [im (lZ sc), im (lZ fs), im (nD P.length), im (tN P), im (.int li), im (.int R), im (bD R ws), im (.int most), im (.list (sl.map enS)), im (.int (topR P R ws)), im (.list (wi.map enS)), none, none, none, none, none]) (List.range P.length) nD (fun k => tZ (rowP P R ws (k + 1)))
      (iRng1 (vI rfl) (by omega)) rfl (by rw [List.length_range]; omega) fun v hv => by
        have hv := List.mem_range.mp hv
        have lc2 := lcA (fi := i_seq (x_var 8)) (γ := g_name 13) (fe := x_ix (x_ix (x_var 13) (x_c (.int 1))) (x_var 14)) (vs := [13]) (e := [im (lZ sc), im (lZ fs), im (nD P.length), im (tN P), im (.int li), im (.int R), im (bD R ws), im (.int most), im (.list (sl.map enS)), im (.int (topR P R ws)), im (.list (wi.map enS)), none, none, none, im (nD v), none]) sl enS (fun s => tZ (gv s.2 (v + 1)))
          (iseqL (vI rfl)) rfl (by omega) fun s hs => ⟨_, rfl, _, binI (binI (vI rfl) cI (i1 s)) (vI rfl) (ixz (f := tZ) (l := s.2) (i := (v : Int)) (by omega) (by have := sl1 s hs; omega)), rfl, rfl⟩
        have mi := st_min O tm hv
        rw [← hsl, List.map_map] at mi
        exact ⟨_, rfl, _, cbA1 lc2 mi, rfl, rfl⟩
    refine w_seq (w_setI (d := rowsD P R ws) (cbT lc) rfl ?_)
    clear lc
    show wS _ [im (lZ sc), im (lZ fs), im (nD P.length), im (tN P), im (.int li), im (.int R), im (bD R ws), im (.int most), im (.list (sl.map enS)), im (.int (topR P R ws)), im (.list (wi.map enS)), im (rowsD P R ws), none, none, none, none] _
    refine w_seq (w_ifF (torF (tnot (same_ok (callI (aI (vI rfl) (aI (vI rfl) a0)) rfl (v_rows_of O)) (vI rfl) (gd_rows O 5))) (tnot (same_ok (callKI a0 (aI (vI rfl) (aI (vI rfl) a0)) rfl (v_rows_of O)) (vI rfl) (gd_rows O 5)))) (w_nx ?_))
    show wS _ [im (lZ sc), im (lZ fs), im (nD P.length), im (tN P), im (.int li), im (.int R), im (bD R ws), im (.int most), im (.list (sl.map enS)), im (.int (topR P R ws)), im (.list (wi.map enS)), im (rowsD P R ws), none, none, none, none] _
    refine w_seq (w_setI (d := tZ (hts P R ws)) (callI (aI (vI rfl) (aI (vI rfl) a0)) rfl (v_walk_heights O)) rfl ?_)
    show wS _ [im (lZ sc), im (lZ fs), im (nD P.length), im (tN P), im (.int li), im (.int R), im (bD R ws), im (.int most), im (.list (sl.map enS)), im (.int (topR P R ws)), im (.list (wi.map enS)), im (rowsD P R ws), im (tZ (hts P R ws)), none, none, none] _
    have lc := lcA (fi := i_seq (x_var 11)) (γ := g_name 15) (fe := x_ix (x_var 15) (x_neg (x_c (.int 1)))) (vs := [15]) (e := [im (lZ sc), im (lZ fs), im (nD P.length), im (tN P), im (.int li), im (.int R), im (bD R ws), im (.int most), im (.list (sl.map enS)), im (.int (topR P R ws)), im (.list (wi.map enS)), im (rowsD P R ws), im (tZ (hts P R ws)), none, none, none]) (List.range P.length) (fun k => tZ (rowP P R ws (k + 1))) (fun k => .int (hgt P R ws (k + 1)))
      (iseqT (vI rfl)) rfl (by rw [List.length_range]; omega) fun k _ => by
        obtain ⟨l, hl⟩ := row_last (P := P) (R := R) (ws := ws) (k + 1)
        have q : p_ix (tZ (rowP P R ws (k + 1))) (.int (-1)) = some (.im (.int (hgt P R ws (k + 1)))) := by
          rw [hl]
          exact ix_last
        exact ⟨_, rfl, _, binI (vI rfl) (negI cI) q, rfl, rfl⟩
    have z1 : (List.range P.length).map (fun k => PyData.int (hgt P R ws (k + 1))) = (hts P R ws).map PyData.int := by rw [List.map_map]; rfl
    rw [z1] at lc
    refine w_seq (w_ifF (tnot (same_ok (d := tZ (hts P R ws)) (vI rfl) (cbT lc) (gd_ints (by rw [hts_len]; omega)))) (w_nx ?_))
    clear lc
    show wS _ [im (lZ sc), im (lZ fs), im (nD P.length), im (tN P), im (.int li), im (.int R), im (bD R ws), im (.int most), im (.list (sl.map enS)), im (.int (topR P R ws)), im (.list (wi.map enS)), im (rowsD P R ws), im (tZ (hts P R ws)), none, none, none] _
    have lc2 := lcA (fi := i_seq (x_var 11)) (γ := g_name 15) (fe := x_ix (x_var 15) (x_c (.int 0))) (vs := [15]) (e := [im (lZ sc), im (lZ fs), im (nD P.length), im (tN P), im (.int li), im (.int R), im (bD R ws), im (.int most), im (.list (sl.map enS)), im (.int (topR P R ws)), im (.list (wi.map enS)), im (rowsD P R ws), im (tZ (hts P R ws)), none, none, none]) (List.range P.length) (fun k => tZ (rowP P R ws (k + 1))) (fun k => .int (hd (rowP P R ws (k + 1))))
      (iseqT (vI rfl)) rfl (by rw [List.length_range]; omega) fun k _ => ⟨_, rfl, _, binI (vI rfl) cI (ix_hd (row_ne (P := P) (R := R) (ws := ws) (k + 1))), rfl, rfl⟩
    have z2 : (List.range P.length).map (fun k => PyData.int (hd (rowP P R ws (k + 1)))) = (hds P R ws).map PyData.int := by rw [List.map_map]; rfl
    rw [z2] at lc2
    have lh : (hds P R ws).length = P.length := by rw [List.length_map, List.length_range]
    have tp : maxI (0 :: hds P R ws) = topR P R ws := maxO_zero (hds_pos O)
    refine w_seq (w_ifF (tnot (same_ok (d := .int (topR P R ws)) (vI rfl) (cbA1 (ds := (0 :: hds P R ws).map PyData.int) (binAA (as := [.int 0]) rfl lc2 (e_cat (by simp; omega))) (by rw [maxB_list (by simp), tp])) True.intro)) (w_nx ?_))
    clear lc2
    show wS _ [im (lZ sc), im (lZ fs), im (nD P.length), im (tN P), im (.int li), im (.int R), im (bD R ws), im (.int most), im (.list (sl.map enS)), im (.int (topR P R ws)), im (.list (wi.map enS)), im (rowsD P R ws), im (tZ (hts P R ws)), none, none, none] _
    have rD : rowsD P R ws = .tuple ((rws P R ws).map tZ) := by
      show PyData.tuple _ = PyData.tuple _
      rw [List.map_map]
      rfl
    have lc := lcT (fi := i_seq (x_var 8)) (γ := g_name 13) (tst := t_and (t_of (x_bin p_eq (x_ix (x_var 13) (x_c (.int 0))) (x_var 12))) (t_of (x_bin p_eq (x_ix (x_var 13) (x_c (.int 1))) (x_var 11)))) (fe := x_var 13) (vs := [13]) (e := [im (lZ sc), im (lZ fs), im (nD P.length), im (tN P), im (.int li), im (.int R), im (bD R ws), im (.int most), im (.list (sl.map enS)), im (.int (topR P R ws)), im (.list (wi.map enS)), im (rowsD P R ws), im (tZ (hts P R ws)), none, none, none]) sl enS (fun s => decide (s.1 = hts P R ws) && decide (s.2 = rws P R ws)) enS
      (iseqL (vI rfl)) rfl (by omega) fun s hs => by
        refine ⟨[im (lZ sc), im (lZ fs), im (nD P.length), im (tN P), im (.int li), im (.int R), im (bD R ws), im (.int most), im (.list (sl.map enS)), im (.int (topR P R ws)), im (.list (wi.map enS)), im (rowsD P R ws), im (tZ (hts P R ws)), im (enS s), none, none], rfl, [im (lZ sc), im (lZ fs), im (nD P.length), im (tN P), im (.int li), im (.int R), im (bD R ws), im (.int most), im (.list (sl.map enS)), im (.int (topR P R ws)), im (.list (wi.map enS)), im (rowsD P R ws), im (tZ (hts P R ws)), im (enS s), none, none], ?_, rfl, fun _ => ⟨_, vI rfl, rfl, rfl⟩⟩
        have k1 := e_eqT s.1 (hts P R ws)
        have k2 := e_eqTT s.2 (rws P R ws)
        rw [← rD] at k2
        by_cases y : s.1 = hts P R ws
        · rw [decide_eq_true y] at k1 ⊢
          exact tandT (bang (binI (binI (vI rfl) cI (i0 s)) (vI rfl) k1)) (bang (binI (binI (vI rfl) cI (i1 s)) (vI rfl) k2))
        · rw [decide_eq_false y] at k1 ⊢
          exact tandF (bang (binI (binI (vI rfl) cI (i0 s)) (vI rfl) k1))
    have one := st_one O tm
    rw [← hsl] at one
    have ln := cbLen (.inl lc)
    rw [List.length_map, one] at ln
    exact w_seq (w_ret (r := .im (.bool true)) (binI ln cI e_eq) ⟨_, rfl, rfl⟩)
theorem v_law (sc : List Int) : F_law [lZ sc] = some (.im (.bool true)) := by
  refine w_eq rfl ?_
  exact w_ret (andT (callI (aI (vI rfl) a0) rfl (v_small sc)) (callI (aI (vI rfl) a0) rfl (v_great sc))) ⟨_, rfl, rfl⟩
end K15
namespace K15
open PySem PySem.Spec PyProof.Rows L2 DL
theorem law_true (ns : List Int) (h : ns.length ≤ 63) : F_law [.list (ns.map PyData.int)] = some (.im (.bool true)) := v_law ns
end K15
namespace K15
open PySem PySem.Spec PyProof.Rows L2 DL
def level : Nat := 12
def spLaw (K : PySem.W.Frag) : Sp := fun vs H Q _ => ∃ (a : Addr) (ns : List Int), vs = [.ref a] ∧ SqL K H a (ns.map V.int) ∧ ns.length ≤ 63 ∧ ∀ H', Q (.bl true) H'
theorem law_imp {P : Program} {w : World} {K : PySem.W.Frag} {mg : Str → Option Value} {base : Heap} {f : Addr} {fd : FuncData} (h : FnOk P w K mg base CX0 12 f fd ["_law_script"] (spD K 1 F_law)) : FnOk P w K mg base CX0 level f fd ["_law_script"] (spLaw K) := by
  refine h.imp fun vs H Q E z => ?_
  obtain ⟨a, ns, rfl, hs, hl, q⟩ := z
  refine ⟨H, [.list (ns.map PyData.int)], _, Same.refl H, .cons (.lst hs (dpAll_ints ns)) .nil, rfl, law_true ns hl, fun v G' H' _ _ _ _ d => ?_⟩
  cases d
  exact q H'
theorem facts {P : Program} {w : World} {K : PySem.W.Frag} {h : Heap} {mg : Str → Option Value} {f : Addr} (X : K.In h) (G : h.Ns mainGlobals mg) (hfa : mg ("law" : Str) = some (.ref f)) (c : He.SaysD fa fn K) :
    ∃ fd : FuncData, (∀ (s : Shared) (v : Value), BindsTo s fd ⟨[v], []⟩ [("_law_script", v)]) ∧ ∀ base : Heap, K.In base → base.Ns mainGlobals mg → FnOk P w K mg base CX0 level f fd ["_law_script"] (spLaw K) := by
  have B : Bi mg := ⟨He.free_ok X G (c.fact 35 (f := .free "abs") rfl), He.free_ok X G (c.fact 36 (f := .free "all") rfl), He.free_ok X G (c.fact 37 (f := .free "any") rfl), He.free_ok X G (c.fact 38 (f := .free "bool") rfl), He.free_ok X G (c.fact 39 (f := .free "enumerate") rfl), He.free_ok X G (c.fact 40 (f := .free "int") rfl), He.free_ok X G (c.fact 41 (f := .free "isinstance") rfl), He.free_ok X G (c.fact 42 (f := .free "len") rfl), He.free_ok X G (c.fact 43 (f := .free "list") rfl), He.free_ok X G (c.fact 44 (f := .free "max") rfl), He.free_ok X G (c.fact 45 (f := .free "min") rfl), He.free_ok X G (c.fact 46 (f := .free "range") rfl), He.free_ok X G (c.fact 47 (f := .free "sorted") rfl), He.free_ok X G (c.fact 48 (f := .free "tuple") rfl), He.free_ok X G (c.fact 49 (f := .free "zip") rfl)⟩
  have I : Ii mg := ⟨He.int_ok X G (c.fact 50 (f := .int "GREATEST_BOUND" 999) rfl)⟩
  obtain ⟨fd_is_integer, F_is_integer_⟩ := c.def_ 0 (d := d_is_integer) rfl
  obtain ⟨fd_is_pair, F_is_pair_⟩ := c.def_ 3 (d := d_is_pair) rfl
  obtain ⟨fd_all_versions, F_all_versions_⟩ := c.def_ 7 (d := d_all_versions) rfl
  obtain ⟨fd_at_or_below, F_at_or_below_⟩ := c.def_ 8 (d := d_at_or_below) rfl
  obtain ⟨fd_falling, F_falling_⟩ := c.def_ 9 (d := d_falling) rfl
  obtain ⟨fd_row_after, F_row_after_⟩ := c.def_ 10 (d := d_row_after) rfl
  obtain ⟨fd_near_elder, F_near_elder_⟩ := c.def_ 12 (d := d_near_elder) rfl
  obtain ⟨fd__law_draw, F__law_draw_⟩ := c.def_ 23 (d := d__law_draw) rfl
  obtain ⟨fd__law_tree, F__law_tree_⟩ := c.def_ 25 (d := d__law_tree) rfl
  obtain ⟨fd__law_open_row, F__law_open_row_⟩ := c.def_ 26 (d := d__law_open_row) rfl
  obtain ⟨fd__law_walk, F__law_walk_⟩ := c.def_ 28 (d := d__law_walk) rfl
  obtain ⟨fd__law_any, F__law_any_⟩ := c.def_ 29 (d := d__law_any) rfl
  obtain ⟨fd_is_natural, F_is_natural_⟩ := c.def_ 1 (d := d_is_natural) rfl
  obtain ⟨fd_step_of, F_step_of_⟩ := c.def_ 11 (d := d_step_of) rfl
  obtain ⟨fd__law_heights, F__law_heights_⟩ := c.def_ 27 (d := d__law_heights) rfl
  obtain ⟨fd_up_to, F_up_to_⟩ := c.def_ 2 (d := d_up_to) rfl
  obtain ⟨fd_walked, F_walked_⟩ := c.def_ 13 (d := d_walked) rfl
  obtain ⟨fd_is_heights, F_is_heights_⟩ := c.def_ 15 (d := d_is_heights) rfl
  obtain ⟨fd_bound_fault, F_bound_fault_⟩ := c.def_ 4 (d := d_bound_fault) rfl
  obtain ⟨fd_need_version, F_need_version_⟩ := c.def_ 6 (d := d_need_version) rfl
  obtain ⟨fd_goes_above, F_goes_above_⟩ := c.def_ 14 (d := d_goes_above) rfl
  obtain ⟨fd_bases_by, F_bases_by_⟩ := c.def_ 16 (d := d_bases_by) rfl
  obtain ⟨fd_need_bounds, F_need_bounds_⟩ := c.def_ 5 (d := d_need_bounds) rfl
  obtain ⟨fd_open_at, F_open_at_⟩ := c.def_ 17 (d := d_open_at) rfl
  obtain ⟨fd_open_row, F_open_row_⟩ := c.def_ 18 (d := d_open_row) rfl
  obtain ⟨fd_rows_of, F_rows_of_⟩ := c.def_ 19 (d := d_rows_of) rfl
  obtain ⟨fd_can_keep, F_can_keep_⟩ := c.def_ 22 (d := d_can_keep) rfl
  obtain ⟨fd_walk_heights, F_walk_heights_⟩ := c.def_ 20 (d := d_walk_heights) rfl
  obtain ⟨fd_top_of, F_top_of_⟩ := c.def_ 21 (d := d_top_of) rfl
  obtain ⟨fd__law_same, F__law_same_⟩ := c.def_ 24 (d := d__law_same) rfl
  obtain ⟨fd__law_small, F__law_small_⟩ := c.def_ 30 (d := d__law_small) rfl
  obtain ⟨fd__law_told, F__law_told_⟩ := c.def_ 31 (d := d__law_told) rfl
  obtain ⟨fd__law_great, F__law_great_⟩ := c.def_ 32 (d := d__law_great) rfl
  obtain ⟨fd_law, F_law_⟩ := c.def_ 33 (d := d_law) rfl
  have e := hfa.symm.trans (He.glo_ok X G (c.fact 33 (f := .glo "law") rfl))
  cases e
  have b := FunD.bindsA (ps := ["_law_script"]) F_law_ fun _ _ _ _ _ _ us hl => match us, hl with | [_], _ => rfl
  refine ⟨fd_law, fun s v => b s [v] rfl, fun base _ _ => ?_⟩
  have k_is_integer := ok_is_integer (P := P) (w := w) (mg := mg) (base := base) B F_is_integer_
  have c_is_integer := kfN F_is_integer_ k_is_integer (He.glo_ok X G (c.fact 0 (f := .glo "is_integer") rfl)) fun _ _ _ _ _ _ us hl => match us, hl with | [_], _ => rfl
  have k_is_pair := ok_is_pair (P := P) (w := w) (mg := mg) (base := base) B F_is_pair_
  have c_is_pair := kfN F_is_pair_ k_is_pair (He.glo_ok X G (c.fact 3 (f := .glo "is_pair") rfl)) fun _ _ _ _ _ _ us hl => match us, hl with | [_], _ => rfl
  have k_all_versions := ok_all_versions (P := P) (w := w) (mg := mg) (base := base) B F_all_versions_
  have c_all_versions := kfN F_all_versions_ k_all_versions (He.glo_ok X G (c.fact 7 (f := .glo "all_versions") rfl)) fun _ _ _ _ _ _ us hl => match us, hl with | [_], _ => rfl
  have k_at_or_below := ok_at_or_below (P := P) (w := w) (mg := mg) (base := base) F_at_or_below_
  have c_at_or_below := kfN F_at_or_below_ k_at_or_below (He.glo_ok X G (c.fact 8 (f := .glo "at_or_below") rfl)) fun _ _ _ _ _ _ us hl => match us, hl with | [_, _, _], _ => rfl
  have k_falling := ok_falling (P := P) (w := w) (mg := mg) (base := base) B F_falling_
  have c_falling := kfN F_falling_ k_falling (He.glo_ok X G (c.fact 9 (f := .glo "falling") rfl)) fun _ _ _ _ _ _ us hl => match us, hl with | [_], _ => rfl
  have k_row_after := ok_row_after (P := P) (w := w) (mg := mg) (base := base) B F_row_after_
  have c_row_after := kfN F_row_after_ k_row_after (He.glo_ok X G (c.fact 10 (f := .glo "row_after") rfl)) fun _ _ _ _ _ _ us hl => match us, hl with | [_, _, _], _ => rfl
  have k_near_elder := ok_near_elder (P := P) (w := w) (mg := mg) (base := base) F_near_elder_
  have c_near_elder := kfN F_near_elder_ k_near_elder (He.glo_ok X G (c.fact 12 (f := .glo "near_elder") rfl)) fun _ _ _ _ _ _ us hl => match us, hl with | [_, _, _], _ => rfl
  have k__law_draw := ok__law_draw (P := P) (w := w) (mg := mg) (base := base) B F__law_draw_
  have c__law_draw := kfN F__law_draw_ k__law_draw (He.glo_ok X G (c.fact 23 (f := .glo "_law_draw") rfl)) fun _ _ _ _ _ _ us hl => match us, hl with | [_, _, _], _ => rfl
  have k__law_tree := ok__law_tree (P := P) (w := w) (mg := mg) (base := base) B F__law_tree_
  have c__law_tree := kfN F__law_tree_ k__law_tree (He.glo_ok X G (c.fact 25 (f := .glo "_law_tree") rfl)) fun _ _ _ _ _ _ us hl => match us, hl with | [_, _], _ => rfl
  have k__law_open_row := ok__law_open_row (P := P) (w := w) (mg := mg) (base := base) B F__law_open_row_
  have c__law_open_row := kfN F__law_open_row_ k__law_open_row (He.glo_ok X G (c.fact 26 (f := .glo "_law_open_row") rfl)) fun _ _ _ _ _ _ us hl => match us, hl with | [_, _, _, _], _ => rfl
  have k__law_walk := ok__law_walk (P := P) (w := w) (mg := mg) (base := base) B F__law_walk_
  have c__law_walk := kfN F__law_walk_ k__law_walk (He.glo_ok X G (c.fact 28 (f := .glo "_law_walk") rfl)) fun _ _ _ _ _ _ us hl => match us, hl with | [_, _], _ => rfl
  have k__law_any := ok__law_any (P := P) (w := w) (mg := mg) (base := base) B F__law_any_
  have c__law_any := kfN F__law_any_ k__law_any (He.glo_ok X G (c.fact 29 (f := .glo "_law_any") rfl)) fun _ _ _ _ _ _ us hl => match us, hl with | [_, _, _], _ => rfl
  have k_is_natural := ok_is_natural (P := P) (w := w) (mg := mg) (base := base) F_is_natural_ c_is_integer
  have c_is_natural := kfN F_is_natural_ k_is_natural (He.glo_ok X G (c.fact 1 (f := .glo "is_natural") rfl)) fun _ _ _ _ _ _ us hl => match us, hl with | [_], _ => rfl
  have k_step_of := ok_step_of (P := P) (w := w) (mg := mg) (base := base) F_step_of_ c_falling c_row_after
  have c_step_of := kfN F_step_of_ k_step_of (He.glo_ok X G (c.fact 11 (f := .glo "step_of") rfl)) fun _ _ _ _ _ _ us hl => match us, hl with | [_, _, _], _ => rfl
  have k__law_heights := ok__law_heights (P := P) (w := w) (mg := mg) (base := base) B F__law_heights_ c__law_open_row
  have c__law_heights := kfN F__law_heights_ k__law_heights (He.glo_ok X G (c.fact 27 (f := .glo "_law_heights") rfl)) fun _ _ _ _ _ _ us hl => match us, hl with | [_, _, _], _ => rfl
  have k_up_to := ok_up_to (P := P) (w := w) (mg := mg) (base := base) F_up_to_ c_is_natural
  have c_up_to := kfN F_up_to_ k_up_to (He.glo_ok X G (c.fact 2 (f := .glo "up_to") rfl)) fun _ _ _ _ _ _ us hl => match us, hl with | [_, _], _ => rfl
  have k_walked := ok_walked (P := P) (w := w) (mg := mg) (base := base) B F_walked_ c_near_elder c_step_of
  have c_walked := kfN F_walked_ k_walked (He.glo_ok X G (c.fact 13 (f := .glo "walked") rfl)) fun _ _ _ _ _ _ us hl => match us, hl with | [_, _, _], _ => rfl
  have k_is_heights := ok_is_heights (P := P) (w := w) (mg := mg) (base := base) B F_is_heights_ c_is_natural
  have c_is_heights := kfN F_is_heights_ k_is_heights (He.glo_ok X G (c.fact 15 (f := .glo "is_heights") rfl)) fun _ _ _ _ _ _ us hl => match us, hl with | [_, _], _ => rfl
  have k_bound_fault := ok_bound_fault (P := P) (w := w) (mg := mg) (base := base) B I F_bound_fault_ c_is_pair c_up_to
  have c_bound_fault := kfN F_bound_fault_ k_bound_fault (He.glo_ok X G (c.fact 4 (f := .glo "bound_fault") rfl)) fun _ _ _ _ _ _ us hl => match us, hl with | [_, _], _ => rfl
  have k_need_version := ok_need_version (P := P) (w := w) (mg := mg) (base := base) B F_need_version_ c_up_to
  have c_need_version := kfN F_need_version_ k_need_version (He.glo_ok X G (c.fact 6 (f := .glo "need_version") rfl)) fun _ _ _ _ _ _ us hl => match us, hl with | [_, _], _ => rfl
  have k_goes_above := ok_goes_above (P := P) (w := w) (mg := mg) (base := base) B F_goes_above_ c_walked
  have c_goes_above := kfN F_goes_above_ k_goes_above (He.glo_ok X G (c.fact 14 (f := .glo "goes_above") rfl)) fun _ _ _ _ _ _ us hl => match us, hl with | [_, _, _], _ => rfl
  have k_bases_by := ok_bases_by (P := P) (w := w) (mg := mg) (base := base) B F_bases_by_ c_is_heights
  have c_bases_by := kfN F_bases_by_ k_bases_by (He.glo_ok X G (c.fact 16 (f := .glo "bases_by") rfl)) fun _ _ _ _ _ _ us hl => match us, hl with | [_, _], _ => rfl
  have k_need_bounds := ok_need_bounds (P := P) (w := w) (mg := mg) (base := base) F_need_bounds_ c_bound_fault
  have c_need_bounds := kfN F_need_bounds_ k_need_bounds (He.glo_ok X G (c.fact 5 (f := .glo "need_bounds") rfl)) fun _ _ _ _ _ _ us hl => match us, hl with | [_, _], _ => rfl
  have k_open_at := ok_open_at (P := P) (w := w) (mg := mg) (base := base) B F_open_at_ c_at_or_below c_bases_by c_need_version
  have c_open_at := kfN F_open_at_ k_open_at (He.glo_ok X G (c.fact 17 (f := .glo "open_at") rfl)) fun _ _ _ _ _ _ us hl => match us, hl with | [_, _, _], _ => rfl
  have k_open_row := ok_open_row (P := P) (w := w) (mg := mg) (base := base) F_open_row_ c_falling c_open_at
  have c_open_row := kfN F_open_row_ k_open_row (He.glo_ok X G (c.fact 18 (f := .glo "open_row") rfl)) fun _ _ _ _ _ _ us hl => match us, hl with | [_, _, _], _ => rfl
  have k_rows_of := ok_rows_of (P := P) (w := w) (mg := mg) (base := base) B F_rows_of_ c_all_versions c_need_bounds c_walked
  have c_rows_of := kfN F_rows_of_ k_rows_of (He.glo_ok X G (c.fact 19 (f := .glo "rows_of") rfl)) fun _ _ _ _ _ _ us hl => match us, hl with | [_, _], _ => rfl
  have c_rows_of_kw0_1_0 : KfK P w K mg base 6 "rows_of" (spD K 2 F_rows_of) 0 ["bounds", "history"] [1, 0] := ⟨_, fd_rows_of, _, k_rows_of, (He.glo_ok X G (c.fact 19 (f := .glo "rows_of") rfl)), F_rows_of_.kp, kbn_of F_rows_of_ 0 ["bounds", "history"] [1, 0] fun _ _ _ _ _ _ us ws h1 h2 => match us, ws, h1, h2 with | [], [_, _], _, _ => rfl⟩
  have k_can_keep := ok_can_keep (P := P) (w := w) (mg := mg) (base := base) F_can_keep_ c_all_versions c_goes_above c_need_bounds
  have c_can_keep := kfN F_can_keep_ k_can_keep (He.glo_ok X G (c.fact 22 (f := .glo "can_keep") rfl)) fun _ _ _ _ _ _ us hl => match us, hl with | [_, _], _ => rfl
  have k_walk_heights := ok_walk_heights (P := P) (w := w) (mg := mg) (base := base) B F_walk_heights_ c_rows_of
  have c_walk_heights := kfN F_walk_heights_ k_walk_heights (He.glo_ok X G (c.fact 20 (f := .glo "walk_heights") rfl)) fun _ _ _ _ _ _ us hl => match us, hl with | [_, _], _ => rfl
  have c_walk_heights_kw0_1_0 : KfK P w K mg base 7 "walk_heights" (spD K 2 F_walk_heights) 0 ["bounds", "history"] [1, 0] := ⟨_, fd_walk_heights, _, k_walk_heights, (He.glo_ok X G (c.fact 20 (f := .glo "walk_heights") rfl)), F_walk_heights_.kp, kbn_of F_walk_heights_ 0 ["bounds", "history"] [1, 0] fun _ _ _ _ _ _ us ws h1 h2 => match us, ws, h1, h2 with | [], [_, _], _, _ => rfl⟩
  have k_top_of := ok_top_of (P := P) (w := w) (mg := mg) (base := base) B F_top_of_ c_rows_of
  have c_top_of := kfN F_top_of_ k_top_of (He.glo_ok X G (c.fact 21 (f := .glo "top_of") rfl)) fun _ _ _ _ _ _ us hl => match us, hl with | [_, _], _ => rfl
  have k__law_same : FnOk P w K mg base CX0 9 _ fd__law_same ["_law_one", "_law_other"] (spD K 2 F__law_same) := ok__law_same (P := P) (w := w) (mg := mg) (base := base) B F__law_same_ (fun ok => kfN F__law_same_ ok (He.glo_ok X G (c.fact 24 (f := .glo "_law_same") rfl)) fun _ _ _ _ _ _ us hl => match us, hl with | [_, _], _ => rfl) 8
  have c__law_same := kfN F__law_same_ k__law_same (He.glo_ok X G (c.fact 24 (f := .glo "_law_same") rfl)) fun _ _ _ _ _ _ us hl => match us, hl with | [_, _], _ => rfl
  have k__law_small := ok__law_small (P := P) (w := w) (mg := mg) (base := base) B F__law_small_ c__law_any c__law_draw c__law_heights c__law_same c__law_tree c_can_keep c_rows_of c_rows_of_kw0_1_0 c_top_of c_walk_heights
  have c__law_small := kfN F__law_small_ k__law_small (He.glo_ok X G (c.fact 30 (f := .glo "_law_small") rfl)) fun _ _ _ _ _ _ us hl => match us, hl with | [_], _ => rfl
  have k__law_told := ok__law_told (P := P) (w := w) (mg := mg) (base := base) B F__law_told_ c__law_open_row c__law_same c__law_walk c_can_keep c_open_row c_rows_of c_top_of c_walk_heights_kw0_1_0
  have c__law_told := kfN F__law_told_ k__law_told (He.glo_ok X G (c.fact 31 (f := .glo "_law_told") rfl)) fun _ _ _ _ _ _ us hl => match us, hl with | [_, _, _], _ => rfl
  have k__law_great := ok__law_great (P := P) (w := w) (mg := mg) (base := base) B F__law_great_ c__law_any c__law_draw c__law_open_row c__law_same c__law_told c__law_tree c_can_keep c_rows_of
  have c__law_great := kfN F__law_great_ k__law_great (He.glo_ok X G (c.fact 32 (f := .glo "_law_great") rfl)) fun _ _ _ _ _ _ us hl => match us, hl with | [_], _ => rfl
  have k_law := ok_law (P := P) (w := w) (mg := mg) (base := base) F_law_ c__law_great c__law_small
  exact law_imp k_law
end K15
open PySem PySem.W PySem.Calls PyProof.Rows
theorem PySem.Challenge.cw_sincemarks_k15_whole_least_open_rows_holds : PySem.Challenge.rw_sincemarks_k15_whole_least_open_rows.Holds := by
  w_on; o_law
  refine HandSHeadRun.head_any (r := OpenLaw.row PySem.Challenge.rw_sincemarks_k15_whole_least_open_rows) (q := view (OpenLaw.row PySem.Challenge.rw_sincemarks_k15_whole_least_open_rows).prog [43]) (H := K15.hk) (ob := K15.ob) (M := 6000) (loose := K15.names) (d := HandSHeadRun.topDef (OpenLaw.row PySem.Challenge.rw_sincemarks_k15_whole_least_open_rows).prog 43) (kwd := []) K15.ob_eq
    (by kernel_rfl) (fun s => by kernel_rfl) K15.run (by kernel_rfl) (by kernel_rfl) (by kernel_rfl) (by rfl) (by first | assumption | decide +kernel) (by decide +kernel) ⟨rfl, rfl, rfl, rfl, rfl, by decide +kernel⟩ ?hw ?hc
  case hw => w_witness2
  case hc =>
    refine L2.walk_ofE (l := PySem.Challenge.rw_sincemarks_k15_whole_least_open_rows) (n := 63) (k := K15.level) (x := "_law_script") (CX := L2.CX0) rfl (by decide) (by kernel_rfl) ⟨rfl, by decide, by decide⟩ ?F (fun _ _ _ _ z => z)
    intro w mg fa h Y G hmg0
    obtain ⟨K, KX, c⟩ := Y
    have hmg : mg ("law" : PySem.Str) = some (.ref fa) := by
      have e : (HandSHeadRun.topDef (OpenLaw.row PySem.Challenge.rw_sincemarks_k15_whole_least_open_rows).prog 43).name = ("law" : PySem.Str) := by kernel_rfl
      rw [← e]
      exact hmg0
    obtain ⟨fd, hb, hF⟩ := K15.facts (P := (PySem.Challenge.rw_sincemarks_k15_whole_least_open_rows).prog) (w := w) KX G hmg c
    exact ⟨K, fd, K15.spLaw K, KX, hb, fun H a ns hl _ hS => ⟨a, ns, rfl, hS, hl, fun _ => rfl⟩, hF⟩
