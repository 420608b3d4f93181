import PyProof.Rows.All
import Wide.All
import OpenK.AllK
import Wide.FinOn
import HandS.ForMost
import HandS.Defaults
import HandS.Conv
import HandS.Zip
import HandS.Rev
import HandS.Style
import HandS.IsInst
import HandS.SortKw
import HandS.SortInts
import HandS.SortOrd
import HandS.TupAny
import HandS.TupLe
import HandS.Wide
import HandS.Flow
import KE.DataMinMax
import KE.SortData
import HandS.TupSets
import KE.GoesEnum
import KE.DataEq
import HandS.Exc
import HandS.ExcOwn
import HandS.ExcInit
import HandS.ExcField
import HandS.ExcIs
import HandS.TryMany
import HandS.ExcCtx
import HandS.HotCalls
import KE.KExcIs
import HandS.Head0
import HandS.Head1
import HandS.Head2
import HandS.HeadEnd
import HandS.HeadHook1
import HandS.HeadHook2
import HandS.Gcd
import KE.KMathGC
import HandS.TupMul
import HandS.Dict
import HandS.Deep
import HandS.Head3
import PySem.Challenge.RW_sincemarks_k19_whole_joining
set_option Elab.async false
set_option linter.all false
set_option maxRecDepth 100000
set_option maxHeartbeats 0
namespace DL
open PySem PySem.Spec PyProof.Rows L2
abbrev St := L2.St
/-- a thing that is only asked: a set of ints, a range -/
inductive Ok where
  | ints (is : List Int)
  | rng (lo hi : Int)
  | xc (a dd : Addr) (fs : List (Str × V)) (ds : List (Str × PyData))
def Ok.At : Ok → HO → Prop
  | .ints is, o => ∃ n, o = .set (fun j => decide (j ∈ is)) n
  | .rng lo hi, o => o = .rng lo hi
  | .xc _ _ _ _, _ => False
inductive Sl where
  | im (d : PyData)
  | ac (ds : List PyData)
  | nl (dss : List (Bool × List PyData))
  | ob (k : Ok)
  | dk (kvs : List (Key × PyData))
abbrev Ev := List (Option Sl)
inductive Rs where
  | im (d : PyData)
  | ac (ds : List PyData)
  | br (i : Nat)
def isAc : Option (Option Sl) → Bool
  | some (some (.ac _)) => true
  | _ => false
theorem isAc_iff {o : Option (Option Sl)} : isAc o = true ↔ ∃ ds, o = some (some (.ac ds)) := by
  constructor
  · intro h
    match o, h with
    | some (some (.ac ds)), _ => exact ⟨ds, rfl⟩
  · rintro ⟨ds, rfl⟩
    rfl
section
variable {K : PySem.W.Frag} {E : Ef} {G G' G1 G2 H H' H1 G0 : Hp} {v : V} {vs ws : List V} {d : PyData} {ds : List PyData} {p a : Addr} {o : HO} {σ σ' : St} {e e' e1 : Ev} {m : Option Addr} {i : Nat} {r : Rs}
theorem seqT (s : Same G G') {xs : List V} (h : SqT K G a xs) : SqT K G' a xs := by
  rcases h with (h | ⟨q, h⟩) | h
  · exact .inl (.inl (s _ _ h))
  · exact .inl (.inr ⟨q, s _ _ h⟩)
  · exact .inr h
mutual
theorem dp_same (s : Same G G') : ∀ {v : V} {d : PyData}, Dp K G v d → Dp K G' v d
  | _, _, .non => .non
  | _, _, .bl b => .bl b
  | _, _, .int i => .int i
  | _, _, .str x => .str x
  | _, _, .lst h q => .lst (s.seq h) (dpAll_same s q)
  | _, _, .tup h q => .tup (seqT s h) (dpAll_same s q)
theorem dpAll_same (s : Same G G') : ∀ {vs : List V} {ds : List PyData}, DpAll K G vs ds → DpAll K G' vs ds
  | _, _, .nil => .nil
  | _, _, .cons h q => .cons (dp_same s h) (dpAll_same s q)
end
theorem dpAll_len : ∀ {vs : List V} {ds : List PyData}, DpAll K G vs ds → vs.length = ds.length
  | _, _, .nil => rfl
  | _, _, .cons _ q => congrArg (· + 1) (dpAll_len q)
theorem dpAll_get : ∀ {vs : List V} {ds : List PyData} {i : Nat} {d : PyData}, DpAll K G vs ds → ds[i]? = some d → ∃ v, vs[i]? = some v ∧ Dp K G v d
  | _, _, _, _, .nil, z => by simp at z
  | _, _, 0, _, .cons (v := v) h _, z => ⟨v, rfl, by
      have z2 := Option.some.inj z
      rw [← z2]
      exact h⟩
  | _, _, i + 1, _, .cons _ q, z => by
      obtain ⟨v, h1, h2⟩ := dpAll_get (i := i) q (by simpa using z)
      exact ⟨v, by simpa using h1, h2⟩
theorem dpAll_app : ∀ {vs ws : List V} {ds es : List PyData}, DpAll K G vs ds → DpAll K G ws es → DpAll K G (vs ++ ws) (ds ++ es)
  | _, _, _, _, .nil, q => q
  | _, _, _, _, .cons h t, q => .cons h (dpAll_app t q)
theorem dpAll_take : ∀ {vs : List V} {ds : List PyData} (n : Nat), DpAll K G vs ds → DpAll K G (vs.take n) (ds.take n)
  | _, _, 0, _ => .nil
  | _, _, _ + 1, .nil => .nil
  | _, _, n + 1, .cons h t => .cons h (dpAll_take n t)
theorem dpAll_drop : ∀ {vs : List V} {ds : List PyData} (n : Nat), DpAll K G vs ds → DpAll K G (vs.drop n) (ds.drop n)
  | _, _, 0, t => t
  | _, _, _ + 1, .nil => .nil
  | _, _, n + 1, .cons _ t => dpAll_drop n t
theorem dpAll_rev : ∀ {vs : List V} {ds : List PyData}, DpAll K G vs ds → DpAll K G vs.reverse ds.reverse
  | _, _, .nil => .nil
  | _, _, .cons h t => by
    rw [List.reverse_cons, List.reverse_cons]
    exact dpAll_app (dpAll_rev t) (.cons h .nil)
theorem dpAll_rep (h : DpAll K G vs ds) : ∀ k : Nat, DpAll K G (List.replicate k vs).flatten (List.replicate k ds).flatten
  | 0 => .nil
  | k + 1 => by
    rw [List.replicate_succ, List.replicate_succ, List.flatten_cons, List.flatten_cons]
    exact dpAll_app h (dpAll_rep h k)
theorem dpAll_ints : ∀ (ns : List Int), DpAll K G (ns.map V.int) (ns.map PyData.int)
  | [] => .nil
  | n :: ns => .cons (.int n) (dpAll_ints ns)
def Own (σ : St) (e : Ev) (a : Addr) : Prop := ∃ (i : Nat) (ds : List PyData), e[i]? = some (some (.ac ds)) ∧ σ[i]? = some (some (.ref a))
/-- what stood at the entry (b), and what is kept beside it since (h) -/
structure Ef where
  h : Hp
  b : Hp
  sub : ∀ a o, b a = some o → h a = some o
instance : CoeFun Ef (fun _ => Hp) := ⟨Ef.h⟩
def Ef.of (H : Hp) : Ef := ⟨H, H, fun _ _ z => z⟩
/-- an inner list: left as it is (true), or one's own -/
def NiF (K : PySem.W.Frag) (m : Option Addr) (E : Ef) (G0 G : Hp) (b : Bool) (ds : List PyData) (q : Addr) : Prop := match b with
  | true => Dp K G (.ref q) (.list ds)
  | false => E.b q = none ∧ G0 q = none ∧ m ≠ some q ∧ ∃ ws, E.h q = some (.lst ws) ∧ DpAll K G ws ds
/-- a list of one's own lists -/
def NlF (K : PySem.W.Frag) (m : Option Addr) (E : Ef) (G0 G : Hp) (o : Option (Option V)) (dss : List (Bool × List PyData)) : Prop :=
  ∃ (p : Addr) (qs : List Addr), o = some (some (.ref p)) ∧ E.h p = some (.lst (qs.map V.ref)) ∧ E.b p = none ∧ G0 p = none ∧ m ≠ some p ∧ qs.length = dss.length ∧ (p :: qs).Nodup ∧
    ∀ (j : Nat) (b : Bool) (ds : List PyData) (q : Addr), dss[j]? = some (b, ds) → qs[j]? = some q → NiF K m E G0 G b ds q
theorem NiF.mono {K : PySem.W.Frag} {m : Option Addr} {E : Ef} {G0 G G' : Hp} (s : Same G G') : ∀ {b : Bool} {ds : List PyData} {q : Addr}, NiF K m E G0 G b ds q → NiF K m E G0 G' b ds q
  | true, _, _, h => dp_same s h
  | false, _, _, ⟨h1, h2, h3, ws, h4, h5⟩ => ⟨h1, h2, h3, ws, h4, dpAll_same s h5⟩
theorem NlF.mono {K : PySem.W.Frag} {m : Option Addr} {E : Ef} {G0 G G' : Hp} {o : Option (Option V)} {dss : List (Bool × List PyData)} (s : Same G G') (h : NlF K m E G0 G o dss) : NlF K m E G0 G' o dss := by
  obtain ⟨p, qs, h1, h2, h3, h4, h5, h6, h7, h8⟩ := h
  exact ⟨p, qs, h1, h2, h3, h4, h5, h6, h7, fun j b ds q a1 a2 => (h8 j b ds q a1 a2).mono s⟩
/-- an exception that a clause holds: itself it lies outside, its dict is told -/
def ObF (K : PySem.W.Frag) (G : Hp) (o : Option (Option V)) : Ok → Prop
  | .xc a dd fs ds => o = some (some (.ref a)) ∧ G dd = some (.xd fs) ∧ fs.map (·.1) = ds.map (·.1) ∧ DpAll K G (fs.map (·.2)) (ds.map (·.2))
  | .ints is => ∃ (p : Addr) (u : HO), o = some (some (.ref p)) ∧ G p = some u ∧ (Ok.ints is).At u
  | .rng lo hi => ∃ (p : Addr) (u : HO), o = some (some (.ref p)) ∧ G p = some u ∧ (Ok.rng lo hi).At u
/-- a dict's items -/
def Dkv (K : PySem.W.Frag) (G : Hp) (ws : List (Key × V)) (kvs : List (Key × PyData)) : Prop := ws.map (·.1) = kvs.map (·.1) ∧ DpAll K G (ws.map (·.2)) (kvs.map (·.2))
/-- one's own dict -/
def DkF (K : PySem.W.Frag) (m : Option Addr) (E : Ef) (G0 G : Hp) (o : Option (Option V)) (kvs : List (Key × PyData)) : Prop :=
  ∃ (p : Addr) (ws : List (Key × V)), o = some (some (.ref p)) ∧ E.h p = some (.dK ws) ∧ E.b p = none ∧ G0 p = none ∧ m ≠ some p ∧ Dkv K G ws kvs
def OtF (K : PySem.W.Frag) (m : Option Addr) (E : Ef) (G0 G : Hp) (o : Option (Option V)) : Sl → Prop
  | .nl dss => NlF K m E G0 G o dss
  | .dk kvs => DkF K m E G0 G o kvs
  | .ob k => ObF K G o k
  | _ => True
theorem OtF.mono {K : PySem.W.Frag} {m : Option Addr} {E : Ef} {G0 G G' : Hp} {o : Option (Option V)} (s : Same G G') : ∀ {x : Sl}, OtF K m E G0 G o x → OtF K m E G0 G' o x
  | .nl _, h => NlF.mono s h
  | .dk _, ⟨p, ws, h1, h2, h3, h4, h5, h6, h7⟩ => ⟨p, ws, h1, h2, h3, h4, h5, h6, dpAll_same s h7⟩
  | .ob (.ints _), ⟨p, u, h1, h2, h3⟩ => ⟨p, u, h1, s p u h2, h3⟩
  | .ob (.rng _ _), ⟨p, u, h1, h2, h3⟩ => ⟨p, u, h1, s p u h2, h3⟩
  | .ob (.xc _ _ _ _), ⟨h1, h2, h3, h4⟩ => ⟨h1, s _ _ h2, h3, dpAll_same s h4⟩
  | .im _, _ => True.intro
  | .ac _, _ => True.intro
/-- the slots e are what σ holds: G what stays, H what stands, E what stood at the entry but the object at m -/
structure Rl (K : PySem.W.Frag) (m : Option Addr) (E : Ef) (G0 G : Hp) (e : Ev) (σ : St) (H : Hp) : Prop where
  gg : Same G0 G
  gh : Same G H
  eh : ∀ a o, E a = some o → m ≠ some a → H a = some o
  mh : ∀ a, m = some a → E a ≠ none ∧ H a ≠ none
  nw : ∀ a, G0 a = none → E a ≠ none → G a = none
  len : e.length = σ.length
  im : ∀ (i : Nat) (d : PyData), e[i]? = some (some (.im d)) → ∃ (v : V), σ[i]? = some (some v) ∧ Dp K G v d
  ac : ∀ (i : Nat) (ds : List PyData), e[i]? = some (some (.ac ds)) → ∃ (p : Addr) (ws : List V), σ[i]? = some (some (.ref p)) ∧ G p = none ∧ H p = some (.lst ws) ∧ DpAll K G ws ds ∧ (E p = none ∨ (m = some p ∧ i = 0))
  inj : ∀ (i j : Nat) (di dj : List PyData) (p : Addr), e[i]? = some (some (.ac di)) → e[j]? = some (some (.ac dj)) → σ[i]? = some (some (.ref p)) → σ[j]? = some (some (.ref p)) → i = j
  ot : ∀ (i : Nat) (s : Sl), e[i]? = some (some s) → OtF K m E G0 G σ[i]? s
theorem Rl.nl {K : PySem.W.Frag} {m : Option Addr} {E : Ef} {G0 G : Hp} {e : Ev} {σ : St} {H : Hp} (R : Rl K m E G0 G e σ H) (i : Nat) (dss : List (Bool × List PyData)) (h : e[i]? = some (some (.nl dss))) : NlF K m E G0 G σ[i]? dss := R.ot i (.nl dss) h
/-- from one moment of an expression to a later one -/
structure Stp (σ : St) (G H : Hp) (e : Ev) (G' H' : Hp) (e' : Ev) : Prop where
  gg : Same G G'
  nw : ∀ a, G a = none → H a ≠ none → G' a = none
  hh : ∀ a o, H a = some o → ¬ Own σ e a → H' a = some o
  kd : ∀ i : Nat, isAc e'[i]? = isAc e[i]?
  th : ∀ a, H a ≠ none → H' a ≠ none
theorem own_kd (k : ∀ i : Nat, isAc e'[i]? = isAc e[i]?) : Own σ e' a ↔ Own σ e a := by
  constructor
  · rintro ⟨i, ds, h1, h2⟩
    have z : isAc e[i]? = true := by rw [← k i, h1]; rfl
    obtain ⟨ds', q⟩ := isAc_iff.mp z
    exact ⟨i, ds', q, h2⟩
  · rintro ⟨i, ds, h1, h2⟩
    have z : isAc e'[i]? = true := by rw [k i, h1]; rfl
    obtain ⟨ds', q⟩ := isAc_iff.mp z
    exact ⟨i, ds', q, h2⟩
theorem Stp.refl : Stp σ G H e G H e := ⟨Same.refl _, fun _ h _ => h, fun _ _ h _ => h, fun _ => rfl, fun _ h => h⟩
theorem Stp.trans (a : Stp σ G H e G1 H1 e1) (b : Stp σ G1 H1 e1 G' H' e') : Stp σ G H e G' H' e' where
  gg := a.gg.trans b.gg
  nw := fun x h1 h2 => b.nw x (a.nw x h1 h2) (a.th x h2)
  hh := fun x o h1 h2 => b.hh x o (a.hh x o h1 h2) fun z => h2 ((own_kd a.kd).mp z)
  kd := fun i => (b.kd i).trans (a.kd i)
  th := fun x h => b.th x (a.th x h)
/-- a value as a result -/
def Vr (K : PySem.W.Frag) (E : Ef) (G H : Hp) (σ : St) (e : Ev) (v : V) : Rs → Prop
  | .im d => Dp K G v d
  | .ac ds => ∃ p ws, v = .ref p ∧ E p = none ∧ G p = none ∧ H p = some (.lst ws) ∧ DpAll K G ws ds ∧ ¬ Own σ e p
  | .br i => ∃ ds, e[i]? = some (some (.ac ds)) ∧ σ[i]? = some (some v)
/-- a new list was not there ahead -/
def Nw (H : Hp) (v : V) : Rs → Prop
  | .ac _ => ∀ p, v = .ref p → H p = none
  | _ => True
theorem Vr.stp (S : Stp σ G H e G' H' e') : ∀ {r : Rs}, Vr K E G H σ e v r → Vr K E G' H' σ e' v r
  | .im d, h => dp_same S.gg h
  | .ac ds, h => by
    obtain ⟨p, ws, rfl, h1, h2, h3, h4, h5⟩ := h
    exact ⟨p, ws, rfl, h1, S.nw p h2 (by rw [h3]; simp), S.hh p _ h3 h5, dpAll_same S.gg h4, fun z => h5 ((own_kd S.kd).mp z)⟩
  | .br i, h => by
    obtain ⟨ds, h1, h2⟩ := h
    have z : isAc e'[i]? = true := by rw [S.kd i, h1]; rfl
    obtain ⟨ds', q⟩ := isAc_iff.mp z
    exact ⟨ds', q, h2⟩
/-- the frozen form -/
def frzR : Rs → Rs
  | .ac ds => .im (.list ds)
  | r => r
/-- a new list is left as it is for good -/
theorem Rl.freeze (R : Rl K m E G0 G' e' σ H') (S : Stp σ G H e G' H' e') (h : Vr K E G' H' σ e' v r) (n : Nw H v r) :
    ∃ G2, Rl K m E G0 G2 e' σ H' ∧ Stp σ G H e G2 H' e' ∧ Same G' G2 ∧ Vr K E G2 H' σ e' v (frzR r) := by
  cases r with
  | im d => exact ⟨G', R, S, Same.refl _, h⟩
  | br i => exact ⟨G', R, S, Same.refl _, h⟩
  | ac ds =>
    obtain ⟨p, ws, rfl, h1, h2, h3, h4, h5⟩ := h
    have s1 : Same G' (upd G' p (.lst ws)) := fun b o q => by
      rw [upd_ne (ne_of_none q h2)]
      exact q
    have hp : H p = none := n p rfl
    refine ⟨upd G' p (.lst ws), ⟨R.gg.trans s1, fun b o q => ?_, R.eh, R.mh, fun b b1 b2 => ?_, R.len, fun i d q => ?_, fun i ds' q => ?_, R.inj, fun i dss q => (R.ot i dss q).mono s1⟩, ⟨S.gg.trans s1, fun b b1 b2 => ?_, S.hh, S.kd, S.th⟩, s1, ?_⟩
    · by_cases z : b = p
      · subst z
        rw [upd_same] at q
        rw [h3]
        exact q
      · rw [upd_ne z] at q
        exact R.gh b o q
    · have z : b ≠ p := fun z => b2 (by rw [z]; exact h1)
      rw [upd_ne z]
      exact R.nw b b1 b2
    · obtain ⟨u, q1, q2⟩ := R.im i d q
      exact ⟨u, q1, dp_same s1 q2⟩
    · obtain ⟨p', ws', q1, q2, q3, q4, q5⟩ := R.ac i ds' q
      have z : p' ≠ p := fun z => h5 ⟨i, ds', q, by rw [← z]; exact q1⟩
      exact ⟨p', ws', q1, by rw [upd_ne z]; exact q2, q3, dpAll_same s1 q4, q5⟩
    · have z : b ≠ p := fun z => b2 (by rw [z]; exact hp)
      rw [upd_ne z]
      exact S.nw b b1 b2
    · exact .lst (.inl (.inl upd_same)) (dpAll_same s1 h4)
/-- a list's own items may be in H, not in G -/
def Lv (K : PySem.W.Frag) (G H : Hp) (v : V) (d : PyData) : Prop := Dp K G v d ∨ ∃ p ws ds, v = .ref p ∧ d = .list ds ∧ H p = some (.lst ws) ∧ DpAll K G ws ds
/-- what a frozen result holds -/
def lookR (e : Ev) : Rs → Option PyData
  | .im d => some d
  | .ac _ => none
  | .br i => match e[i]? with
    | some (some (.ac ds)) => some (.list ds)
    | _ => none
theorem Rl.look (R : Rl K m E G0 G e σ H) (h : Vr K E G H σ e v r) (q : lookR e r = some d) : Lv K G H v d := by
  cases r with
  | im d' =>
    cases q
    exact .inl h
  | ac ds => cases q
  | br i =>
    obtain ⟨ds, h1, h2⟩ := h
    simp only [lookR, h1, Option.some.injEq] at q
    subst q
    obtain ⟨p, ws, q1, q2, q3, q4, q5⟩ := R.ac i ds h1
    rw [h2] at q1
    cases q1
    exact .inr ⟨p, ws, ds, rfl, rfl, q3, q4⟩
theorem Lv.dp (s : Same G H) (h : Lv K G H v d) : Dp K H v d := by
  rcases h with h | ⟨p, ws, ds, rfl, rfl, h1, h2⟩
  · exact dp_same s h
  · exact .lst (.inl (.inl h1)) (dpAll_same s h2)
/-- as a list -/
theorem Lv.list (s : Same G H) (h : Lv K G H v (.list ds)) : ∃ p ws, v = .ref p ∧ SqL K H p ws ∧ DpAll K G ws ds := by
  rcases h with h | ⟨p, ws, ds', rfl, e, h1, h2⟩
  · cases h with
    | lst h q => exact ⟨_, _, rfl, s.seq h, q⟩
  · cases e
    exact ⟨p, ws, rfl, .inl (.inl h1), h2⟩
theorem Lv.tup (s : Same G H) (h : Lv K G H v (.tuple ds)) : ∃ p ws, v = .ref p ∧ SqT K H p ws ∧ DpAll K G ws ds := by
  rcases h with h | ⟨p, ws, ds', rfl, e, h1, h2⟩
  · cases h with
    | tup h q => exact ⟨_, _, rfl, seqT s h, q⟩
  · cases e
theorem Lv.int {i : Int} (h : Lv K G H v (.int i)) : v = .int i := by
  rcases h with h | ⟨p, ws, ds, rfl, e, _⟩
  · cases h
    rfl
  · cases e
theorem Lv.bool {b : Bool} (h : Lv K G H v (.bool b)) : v = .bl b := by
  rcases h with h | ⟨p, ws, ds, rfl, e, _⟩
  · cases h
    rfl
  · cases e
theorem Lv.none (h : Lv K G H v .none) : v = .non := by
  rcases h with h | ⟨p, ws, ds, rfl, e, _⟩
  · cases h
    rfl
  · cases e
theorem Lv.str {x : Str} (h : Lv K G H v (.str x)) : v = .str x := by
  rcases h with h | ⟨p, ws, ds, rfl, e, _⟩
  · cases h
    rfl
  · cases e
theorem Rl.fresh (R : Rl K m E G0 G e σ H) (h : H p = none) : G p = none ∧ E p = none ∧ ¬ Own σ e p ∧ m ≠ some p := by
  refine ⟨R.gh.free h, ?_, ?_, ?_⟩
  · cases q : E p with
    | none => rfl
    | some o =>
      by_cases z : m = some p
      · exact absurd h (R.mh p z).2
      · rw [R.eh p o q z] at h
        cases h
  · rintro ⟨i, ds, h1, h2⟩
    obtain ⟨p', ws, q1, _, q3, _⟩ := R.ac i ds h1
    rw [h2] at q1
    cases q1
    rw [h] at q3
    cases q3
  · intro z
    exact absurd h (R.mh p z).2
theorem same_new (h : H p = none) : Same H (upd H p o) := fun b u q => by
  rw [upd_ne (ne_of_none q h)]
  exact q
/-- a new tuple -/
theorem Rl.newT (R : Rl K m E G0 G e σ H) (h : H p = none) (q : DpAll K G ws ds) :
    Rl K m E G0 (upd G p (.tup ws)) e σ (upd H p (.tup ws)) ∧ Stp σ G H e (upd G p (.tup ws)) (upd H p (.tup ws)) e ∧ Dp K (upd G p (.tup ws)) (.ref p) (.tuple ds) := by
  obtain ⟨hG, hE, hO, hm⟩ := R.fresh h
  have s1 : Same G (upd G p (.tup ws)) := same_new hG
  have nb : ∀ {b : Addr}, H b ≠ none → b ≠ p := fun {b} z y => z (by rw [y]; exact h)
  refine ⟨⟨R.gg.trans s1, fun b u z => ?_, fun b u b1 b2 => ?_, fun b b1 => ⟨(R.mh b b1).1, ?_⟩, fun b b1 b2 => ?_, R.len, fun i d z => ?_, fun i ds' z => ?_, R.inj, fun i dss z => (R.ot i dss z).mono s1⟩, ⟨s1, fun b b1 b2 => ?_, fun b u b1 _ => same_new h b u b1, fun _ => rfl, fun b b1 => ?_⟩, .tup (.inl (.inl upd_same)) (dpAll_same s1 q)⟩
  · by_cases y : b = p
    · subst y
      rw [upd_same] at z ⊢
      exact z
    · rw [upd_ne y] at z ⊢
      exact R.gh b u z
  · exact same_new h b u (R.eh b u b1 b2)
  · rw [upd_ne (nb (R.mh b b1).2)]
    exact (R.mh b b1).2
  · have y : b ≠ p := fun y => b2 (by rw [y]; exact hE)
    rw [upd_ne y]
    exact R.nw b b1 b2
  · obtain ⟨u, z1, z2⟩ := R.im i d z
    exact ⟨u, z1, dp_same s1 z2⟩
  · obtain ⟨p', ws', z1, z2, z3, z4, z5⟩ := R.ac i ds' z
    have y : p' ≠ p := nb (by rw [z3]; simp)
    exact ⟨p', ws', z1, by rw [upd_ne y]; exact z2, by rw [upd_ne y]; exact z3, dpAll_same s1 z4, z5⟩
  · rw [upd_ne (nb b2)]
    exact b1
  · rw [upd_ne (nb b1)]
    exact b1
/-- a new list -/
theorem Rl.newL (R : Rl K m E G0 G e σ H) (h : H p = none) (q : DpAll K G ws ds) :
    Rl K m E G0 G e σ (upd H p (.lst ws)) ∧ Stp σ G H e G (upd H p (.lst ws)) e ∧ Vr K E G (upd H p (.lst ws)) σ e (.ref p) (.ac ds) ∧ Nw H (.ref p) (.ac ds) := by
  obtain ⟨hG, hE, hO, hm⟩ := R.fresh h
  have nb : ∀ {b : Addr}, H b ≠ none → b ≠ p := fun {b} z y => z (by rw [y]; exact h)
  refine ⟨⟨R.gg, R.gh.trans (same_new h), fun b u b1 b2 => same_new h b u (R.eh b u b1 b2), fun b b1 => ⟨(R.mh b b1).1, ?_⟩, R.nw, R.len, R.im, fun i ds' z => ?_, R.inj, R.ot⟩, ⟨Same.refl _, fun _ b1 _ => b1, fun b u b1 _ => same_new h b u b1, fun _ => rfl, fun b b1 => ?_⟩, ⟨p, ws, rfl, hE, hG, upd_same, q, hO⟩, fun p' z => ?_⟩
  · rw [upd_ne (nb (R.mh b b1).2)]
    exact (R.mh b b1).2
  · obtain ⟨p', ws', z1, z2, z3, z4, z5⟩ := R.ac i ds' z
    have y : p' ≠ p := nb (by rw [z3]; simp)
    exact ⟨p', ws', z1, z2, by rw [upd_ne y]; exact z3, z4, z5⟩
  · rw [upd_ne (nb b1)]
    exact b1
  · cases z
    exact h
end
end DL
namespace DL
open PySem PySem.Spec PyProof.Rows L2
abbrev Fe := Ev → Option (Rs × Ev)
abbrev Ft := Ev → Option (Bool × Ev)
abbrev Fa := Ev → Option (List Rs × Ev)
inductive Fl where
  | nx (e : Ev)
  | bk (e : Ev)
  | ct (e : Ev)
  | rt (r : Rs) (e : Ev)
abbrev Fs := Ev → Option Fl
/-- what must follow a result -/
def Po (K : PySem.W.Frag) (m : Option Addr) (E : Ef) (G0 : Hp) (σ : St) (G H : Hp) (e : Ev) (r : Rs) (e' : Ev) (Q : VK) : Prop :=
  ∀ v G' H', Rl K m E G0 G' e' σ H' → Stp σ G H e G' H' e' → Vr K E G' H' σ e' v r → Nw H v r → Q v H'
structure ED (X : Cx) (x : Expr) (f : Fe) : Prop where
  ex : ∃ t : TE, PE X x t ∧ ∀ (m : Option Addr) (E : Ef) (G0 G : Hp) (e : Ev) (σ : St) (H : Hp) (r : Rs) (e' : Ev) (Q : VK),
    Rl X.K m E G0 G e σ H → f e = some (r, e') → Po X.K m E G0 σ G H e r e' Q → t σ H Q
structure TD (X : Cx) (x : Expr) (f : Ft) : Prop where
  ex : ∃ t : TT, PT X x t ∧ ∀ (m : Option Addr) (E : Ef) (G0 G : Hp) (e : Ev) (σ : St) (H : Hp) (b : Bool) (e' : Ev) (Q : Bool → Hp → Prop),
    Rl X.K m E G0 G e σ H → f e = some (b, e') → (∀ G' H', Rl X.K m E G0 G' e' σ H' → Stp σ G H e G' H' e' → Q b H') → t σ H Q
structure WD (X : Cx) (x : Expr) (f : Ft) : Prop where
  ex : ∃ t : TT, PW X x t ∧ ∀ (m : Option Addr) (E : Ef) (G0 G : Hp) (e : Ev) (σ : St) (H : Hp) (b : Bool) (e' : Ev) (Q : Bool → Hp → Prop),
    Rl X.K m E G0 G e σ H → f e = some (b, e') → (∀ G' H', Rl X.K m E G0 G' e' σ H' → Stp σ G H e G' H' e' → Q b H') → t σ H Q
def VrAll (K : PySem.W.Frag) (E : Ef) (G H : Hp) (σ : St) (e : Ev) : List V → List Rs → Prop
  | [], [] => True
  | v :: vs, r :: rs => Vr K E G H σ e v r ∧ VrAll K E G H σ e vs rs
  | _, _ => False
structure AD (X : Cx) (xs : List Expr) (f : Fa) : Prop where
  ex : ∃ t : TA, PA X xs t ∧ ∀ (m : Option Addr) (E : Ef) (G0 G : Hp) (e : Ev) (σ : St) (H : Hp) (rs : List Rs) (e' : Ev) (Q : List V → Hp → Prop),
    Rl X.K m E G0 G e σ H → f e = some (rs, e') → (∀ vs G' H', Rl X.K m E G0 G' e' σ H' → Stp σ G H e G' H' e' → VrAll X.K E G' H' σ e' vs rs → Q vs H') → t σ H Q
def lookAll (e : Ev) : List Rs → Option (List PyData)
  | [] => some []
  | r :: rs => match lookR e r with
    | some d => (match lookAll e rs with
      | some ds => some (d :: ds)
      | none => none)
    | none => none
def LvAll (K : PySem.W.Frag) (G H : Hp) : List V → List PyData → Prop
  | [], [] => True
  | v :: vs, d :: ds => Lv K G H v d ∧ LvAll K G H vs ds
  | _, _ => False
section
variable {K : PySem.W.Frag} {E : Ef} {G G' H H' G0 : Hp} {v : V} {d : PyData} {σ : St} {e e' e1 : Ev} {m : Option Addr} {r : Rs} {Q : VK}
theorem VrAll.stp (S : Stp σ G H e G' H' e') : ∀ {vs : List V} {rs : List Rs}, VrAll K E G H σ e vs rs → VrAll K E G' H' σ e' vs rs
  | [], [], _ => True.intro
  | _ :: _, _ :: _, h => ⟨h.1.stp S, VrAll.stp S h.2⟩
  | [], _ :: _, h => h.elim
  | _ :: _, [], h => h.elim
theorem Rl.lookAll (R : Rl K m E G0 G e σ H) : ∀ {vs : List V} {rs : List Rs} {ds : List PyData}, VrAll K E G H σ e vs rs → DL.lookAll e rs = some ds → LvAll K G H vs ds
  | [], [], ds, _, q => by
    cases q
    exact True.intro
  | v :: vs, r :: rs, ds, h, q => by
    simp only [DL.lookAll] at q
    cases h1 : lookR e r with
    | none =>
      rw [h1] at q
      cases q
    | some d =>
      rw [h1] at q
      cases h2 : DL.lookAll e rs with
      | none =>
        simp only [h2] at q
        cases q
      | some ds2 =>
        simp only [h2, Option.some.injEq] at q
        subst q
        exact ⟨R.look h.1 h1, R.lookAll h.2 h2⟩
  | [], _ :: _, _, h, _ => h.elim
  | _ :: _, [], _, h, _ => h.elim
theorem LvAll.len : ∀ {vs : List V} {ds : List PyData}, LvAll K G H vs ds → vs.length = ds.length
  | [], [], _ => rfl
  | _ :: _, _ :: _, h => congrArg (· + 1) (LvAll.len h.2)
  | [], _ :: _, h => h.elim
  | _ :: _, [], h => h.elim
theorem LvAll.dp (s : Same G H) : ∀ {vs : List V} {ds : List PyData}, LvAll K G H vs ds → DpAll K H vs ds
  | [], [], _ => .nil
  | _ :: _, _ :: _, h => .cons (h.1.dp s) (LvAll.dp s h.2)
  | [], _ :: _, h => h.elim
  | _ :: _, [], h => h.elim
/-- a result at the very moment -/
theorem Po.now (P : Po K m E G0 σ G H e r e Q) (R : Rl K m E G0 G e σ H) (h : Vr K E G H σ e v r) (n : Nw H v r) : Q v H := P v G H R Stp.refl h n
theorem Po.of (P : Po K m E G0 σ G H e r e' Q) (S : Stp σ G H e G' H' e1) : (∀ v, Nw H' v r → Nw H v r) → Po K m E G0 σ G' H' e1 r e' Q :=
  fun n v G2 H2 R2 S2 h2 n2 => P v G2 H2 R2 (S.trans S2) h2 (n v n2)
theorem nw_back (S : Stp σ G H e G' H' e1) : ∀ {r : Rs} (v : V), Nw H' v r → Nw H v r
  | .im _, _, _ => True.intro
  | .br _, _, _ => True.intro
  | .ac _, v, n => fun p z => by
    cases q : H p with
    | none => rfl
    | some o => exact absurd (n p z) (S.th p (by rw [q]; simp))
theorem Po.aft (P : Po K m E G0 σ G H e r e' Q) (S : Stp σ G H e G' H' e1) : Po K m E G0 σ G' H' e1 r e' Q := P.of S fun v n => nw_back S v n
end
def x_var (i : Nat) : Fe := fun e => match e[i]? with
  | some (some (.im d)) => some (.im d, e)
  | some (some (.ac _)) => some (.br i, e)
  | _ => none
def x_c (d : PyData) : Fe := fun e => some (.im d, e)
section
variable {X : Cx} {pos : Pos}
theorem ed_var (i : Nat) {x : Str} (hN : X.N[i]? = some x := by rfl) (hv : Vis X.env.scope x := by first | exact Or.inl rfl | exact Or.inr (Or.inl rfl) | exact Or.inr (Or.inr rfl)) (hd : (x == ("__debug__" : Str)) = false := by decide)
    (hcd : (x == ("__classdict__" : Str)) = false := by decide) : ED X (.Name x pos) (x_var i) := by
  refine ⟨_, pe_var hN hv hd hcd, fun m E G0 G e σ H r e' Q R q P => ?_⟩
  unfold x_var at q
  split at q
  · rename_i d h
    cases q
    obtain ⟨v, h1, h2⟩ := R.im i d h
    exact ⟨v, h1, P.now R h2 True.intro⟩
  · rename_i ds h
    cases q
    obtain ⟨p, ws, h1, _⟩ := R.ac i ds h
    exact ⟨.ref p, h1, P.now R ⟨ds, h, h1⟩ True.intro⟩
  · cases q
theorem ed_int {i j} : ED X (.Constant (.int i) j pos) (x_c (.int i)) := ⟨_, pe_int, fun m E G0 G e σ H r e' Q R q P => by
  cases q
  exact P.now R (.int i) True.intro⟩
theorem ed_bl {b j} : ED X (.Constant (.bool b) j pos) (x_c (.bool b)) := ⟨_, pe_bl, fun m E G0 G e σ H r e' Q R q P => by
  cases q
  exact P.now R (.bl b) True.intro⟩
theorem ed_non {j} : ED X (.Constant .none j pos) (x_c .none) := ⟨_, pe_non, fun m E G0 G e σ H r e' Q R q P => by
  cases q
  exact P.now R .non True.intro⟩
theorem ed_str {x j} : ED X (.Constant (.str x) j pos) (x_c (.str x)) := ⟨_, pe_str, fun m E G0 G e σ H r e' Q R q P => by
  cases q
  exact P.now R (.str x) True.intro⟩
end
/-- both sides, left to right -/
def two (fa fb : Fe) : Ev → Option (Rs × Rs × Ev) := fun e => match fa e with
  | some (ra, e1) => (match fb e1 with
    | some (rb, e2) => some (frzR ra, frzR rb, e2)
    | none => none)
  | none => none
def look2 (p : Rs × Rs × Ev) : Option (PyData × PyData × Ev) := match lookR p.2.2 p.1, lookR p.2.2 p.2.1 with
  | some a, some b => some (a, b, p.2.2)
  | _, _ => none
def x_bin (φ : PyData → PyData → Option Rs) (fa fb : Fe) : Fe := fun e => match two fa fb e with
  | some p => (match look2 p with
    | some (a, b, e2) => (match φ a b with
      | some r => some (r, e2)
      | none => none)
    | none => none)
  | none => none
section
variable {X : Cx} {a b : Expr} {fa fb : Fe} {pos : Pos}
theorem two_ok (ha : ED X a fa) (hb : ED X b fb) : ∃ ta tb, PE X a ta ∧ PE X b tb ∧ ∀ (m : Option Addr) (E : Ef) (G0 G : Hp) (e : Ev) (σ : St) (H : Hp) (ra rb : Rs) (e' : Ev) (R : V → V → Hp → Prop),
    Rl X.K m E G0 G e σ H → two fa fb e = some (ra, rb, e') → (∀ u v G' H', Rl X.K m E G0 G' e' σ H' → Stp σ G H e G' H' e' → Vr X.K E G' H' σ e' u ra → Vr X.K E G' H' σ e' v rb → R u v H') →
    ta σ H fun x H1 => tb σ H1 fun y H2 => R x y H2 := by
  obtain ⟨ta, pa, ka⟩ := ha
  obtain ⟨tb, pb, kb⟩ := hb
  refine ⟨ta, tb, pa, pb, fun m E G0 G e σ H ra rb e' R Rl0 q k => ?_⟩
  unfold two at q
  cases h1 : fa e with
  | none => simp only [h1] at q; cases q
  | some p1 =>
    obtain ⟨r1, e1⟩ := p1
    simp only [h1] at q
    cases h2 : fb e1 with
    | none => simp only [h2] at q; cases q
    | some p2 =>
      obtain ⟨r2, e2⟩ := p2
      simp only [h2, Option.some.injEq, Prod.mk.injEq] at q
      obtain ⟨rfl, rfl, rfl⟩ := q
      refine ka m E G0 G e σ H r1 e1 _ Rl0 h1 fun u G1 H1 R1 S1 V1 N1 => ?_
      obtain ⟨G1', R1', S1', s1, V1'⟩ := R1.freeze S1 V1 N1
      refine kb m E G0 G1' e1 σ H1 r2 e2 _ R1' h2 fun v G2 H2 R2 S2 V2 N2 => ?_
      obtain ⟨G2', R2', S2', s2, V2'⟩ := R2.freeze S2 V2 N2
      exact k u v G2' H2 R2' (S1'.trans S2') (V1'.stp S2') V2'
end
/-- a two-place rule by values, over data -/
def VB (K : PySem.W.Frag) (r : R2) (φ : PyData → PyData → Option Rs) : Prop :=
  ∀ (m : Option Addr) (E : Ef) (G0 G : Hp) (e : Ev) (σ : St) (H : Hp) (x y : V) (dx dy : PyData) (rr : Rs) (Q : VK), Rl K m E G0 G e σ H → Lv K G H x dx → Lv K G H y dy → φ dx dy = some rr → Po K m E G0 σ G H e rr e Q → r x y H Q
def orF {α β γ : Type} (φ ψ : α → β → Option γ) : α → β → Option γ := fun a b => match φ a b with
  | some r => some r
  | none => ψ a b
theorem VB.or {K : PySem.W.Frag} {r r' : R2} {φ ψ : PyData → PyData → Option Rs} (h : VB K r φ) (h' : VB K r' ψ) : VB K (fun x y H Q => r x y H Q ∨ r' x y H Q) (orF φ ψ) := by
  intro m E G0 G e σ H x y dx dy rr Q R lx ly q P
  unfold orF at q
  cases h1 : φ dx dy with
  | some r1 =>
    simp only [h1, Option.some.injEq] at q
    subst q
    exact .inl (h m E G0 G e σ H x y dx dy _ Q R lx ly h1 P)
  | none =>
    simp only [h1] at q
    exact .inr (h' m E G0 G e σ H x y dx dy _ Q R lx ly q P)
/-- its result is nothing new -/
theorem VB.pure {K : PySem.W.Frag} {r : R2} {φ : PyData → PyData → Option PyData}
    (h : ∀ (G H : Hp) (x y : V) (dx dy d : PyData) (Q : VK), Same G H → Lv K G H x dx → Lv K G H y dy → φ dx dy = some d → (∀ v, Dp K G v d → Q v H) → r x y H Q) : VB K r (fun a b => (φ a b).map Rs.im) := by
  intro m E G0 G e σ H x y dx dy rr Q R lx ly q P
  cases h1 : φ dx dy with
  | none => simp only [h1, Option.map_none] at q; cases q
  | some d =>
    simp only [h1, Option.map_some, Option.some.injEq] at q
    subst q
    exact h G H x y dx dy d Q R.gh lx ly h1 fun v z => P.now R z True.intro
section
variable {X : Cx} {a b : Expr} {fa fb : Fe} {pos : Pos} {op : Operator} {cop : CmpOp} {r : R2} {φ : PyData → PyData → Option Rs}
theorem bin_ok {ta tb : TE} (hv : VB X.K r φ) (k2 : ∀ (m : Option Addr) (E : Ef) (G0 G : Hp) (e : Ev) (σ : St) (H : Hp) (ra rb : Rs) (e' : Ev) (R : V → V → Hp → Prop),
    Rl X.K m E G0 G e σ H → two fa fb e = some (ra, rb, e') → (∀ u v G' H', Rl X.K m E G0 G' e' σ H' → Stp σ G H e G' H' e' → Vr X.K E G' H' σ e' u ra → Vr X.K E G' H' σ e' v rb → R u v H') → ta σ H fun x H1 => tb σ H1 fun y H2 => R x y H2)
    (m : Option Addr) (E : Ef) (G0 G : Hp) (e : Ev) (σ : St) (H : Hp) (rr : Rs) (e' : Ev) (Q : VK) (R : Rl X.K m E G0 G e σ H) (q : x_bin φ fa fb e = some (rr, e')) (P : Po X.K m E G0 σ G H e rr e' Q) : tOp r ta tb σ H Q := by
  unfold x_bin at q
  cases h1 : two fa fb e with
  | none => simp only [h1] at q; cases q
  | some p =>
    obtain ⟨ra, rb, e2⟩ := p
    simp only [h1] at q
    cases h2 : look2 (ra, rb, e2) with
    | none => simp only [h2] at q; cases q
    | some z =>
      obtain ⟨da, db, e3⟩ := z
      simp only [h2] at q
      cases h3 : φ da db with
      | none => simp only [h3] at q; cases q
      | some r3 =>
        simp only [h3, Option.some.injEq, Prod.mk.injEq] at q
        obtain ⟨rfl, rfl⟩ := q
        unfold look2 at h2
        dsimp only at h2
        cases h4 : lookR e2 ra with
        | none => simp only [h4] at h2; cases h2
        | some d1 =>
          cases h5 : lookR e2 rb with
          | none => simp only [h4, h5] at h2; cases h2
          | some d2 =>
            simp only [h4, h5, Option.some.injEq, Prod.mk.injEq] at h2
            obtain ⟨rfl, rfl, rfl⟩ := h2
            exact k2 m E G0 G e σ H ra rb e2 _ R h1 fun u v G' H' R' S' V1 V2 => hv m E G0 G' e2 σ H' u v _ _ _ Q R' (R'.look V1 h4) (R'.look V2 h5) h3 (P.aft S')
theorem ed_op (hv : VB X.K r φ) (ho : OpR X (binaryOp op) r) (ha : ED X a fa) (hb : ED X b fb) : ED X (.BinOp a op b pos) (x_bin φ fa fb) := by
  obtain ⟨ta, tb, pa, pb, k2⟩ := two_ok ha hb
  exact ⟨_, pe_op ho pa pb, bin_ok hv k2⟩
theorem ed_cmp (hv : VB X.K r φ) (ho : OpR X (compareOp cop) r) (hm : behindInMarks cop b = false) (ha : ED X a fa) (hb : ED X b fb) : ED X (.Compare a [cop] [b] pos) (x_bin φ fa fb) := by
  obtain ⟨ta, tb, pa, pb, k2⟩ := two_ok ha hb
  exact ⟨_, pe_cmpR ho pa pb hm, bin_ok hv k2⟩
end
/-- a result that is a bool, as a test -/
def t_of (f : Fe) : Ft := fun e => match f e with
  | some (.im (.bool b), e1) => some (b, e1)
  | _ => none
theorem t_of_ok {f : Fe} {e e' : Ev} {b : Bool} (q : t_of f e = some (b, e')) : f e = some (.im (.bool b), e') := by
  unfold t_of at q
  split at q
  · rename_i b1 e1 h
    cases q
    exact h
  · cases q
section
variable {X : Cx} {a b c : Expr} {fa fb fc : Fe} {pos : Pos} {cop cop' : CmpOp} {r r' : R2} {φ ψ : PyData → PyData → Option Rs}
theorem td_cmp (hv : VB X.K r φ) (ho : OpR X (compareOp cop) r) (hm : behindInMarks cop b = false) (ha : ED X a fa) (hb : ED X b fb) : TD X (.Compare a [cop] [b] pos) (t_of (x_bin φ fa fb)) := by
  obtain ⟨ta, tb, pa, pb, k2⟩ := two_ok ha hb
  refine ⟨_, pt_cmpR ho pa pb hm, fun m E G0 G e σ H k e' Q R q P => ?_⟩
  exact bin_ok hv k2 m E G0 G e σ H _ e' _ R (t_of_ok q) fun v G' H' R' S' V' _ => by
    cases V'
    exact ⟨k, rfl, P G' H' R' S'⟩
/-- an expression that gives a bool, as a test -/
theorem td_val {x : Expr} {f : Fe} (h : ED X x f) (he : ∀ whole, isTrue x X.env whole = (do let v ← whole; standAt x.pos; holding [v] (truthy v)) := by intro _; rfl) : TD X x (t_of f) := by
  obtain ⟨t, p, k⟩ := h
  refine ⟨_, pt_val p he, fun m E G0 G e σ H b e' Q R q P => ?_⟩
  exact k m E G0 G e σ H _ e' _ R (t_of_ok q) fun v G' H' R' S' V' _ => by
    cases V'
    exact ⟨b, rfl, P G' H' R' S'⟩
def t_not (f : Ft) : Ft := fun e => match f e with
  | some (b, e1) => some (!b, e1)
  | none => none
theorem td_not {f : Ft} (h : TD X a f) : TD X (.UnaryOp .Not a pos) (t_not f) := by
  obtain ⟨t, p, k⟩ := h
  refine ⟨_, pt_not p, fun m E G0 G e σ H b e' Q R q P => ?_⟩
  unfold t_not at q
  cases h1 : f e with
  | none => simp only [h1] at q; cases q
  | some z =>
    obtain ⟨b1, e1⟩ := z
    simp only [h1, Option.some.injEq, Prod.mk.injEq] at q
    obtain ⟨rfl, rfl⟩ := q
    exact k m E G0 G e σ H b1 e1 _ R h1 P
def t_or (f g : Ft) : Ft := fun e => match f e with
  | some (true, e1) => some (true, e1)
  | some (false, e1) => g e1
  | none => none
variable {f g : Ft} {rest : List Expr}
theorem wd_or1 (h : TD X a f) : WD X (.BoolOp .Or [a] pos) f := by
  obtain ⟨t, p, k⟩ := h
  exact ⟨_, pw_or1 p, k⟩
theorem wd_or (h : TD X a f) (h2 : WD X (.BoolOp .Or (b :: rest) pos) g) : WD X (.BoolOp .Or (a :: b :: rest) pos) (t_or f g) := by
  obtain ⟨t, p, k⟩ := h
  obtain ⟨t2, p2, k2⟩ := h2
  refine ⟨_, pw_or p p2, fun m E G0 G e σ H c e' Q R q P => ?_⟩
  unfold t_or at q
  cases h1 : f e with
  | none => simp only [h1] at q; cases q
  | some z =>
    obtain ⟨b1, e1⟩ := z
    cases b1 with
    | false =>
      simp only [h1] at q
      refine k m E G0 G e σ H false e1 _ R h1 fun G' H' R' S' => ?_
      show if false = true then _ else _
      rw [if_neg Bool.false_ne_true]
      exact k2 m E G0 G' e1 σ H' c e' Q R' q fun G2 H2 R2 S2 => P G2 H2 R2 (S'.trans S2)
    | true =>
      simp only [h1, Option.some.injEq, Prod.mk.injEq] at q
      obtain ⟨rfl, rfl⟩ := q
      refine k m E G0 G e σ H true e1 _ R h1 fun G' H' R' S' => ?_
      show if true = true then _ else _
      rw [if_pos rfl]
      exact P G' H' R' S'
theorem WD.td {x : Expr} (h : WD X x f) : TD X x f := by
  obtain ⟨t, p, k⟩ := h
  exact ⟨t, p.pt, k⟩
def x_and (f g : Fe) : Fe := fun e => match f e with
  | some (.im (.bool true), e1) => g e1
  | some (.im (.bool false), e1) => some (.im (.bool false), e1)
  | _ => none
def x_not (f : Fe) : Fe := fun e => match f e with
  | some (.im (.bool b), e1) => some (.im (.bool !b), e1)
  | _ => none
theorem ed_one {op : BoolOp} {f : Fe} (h : ED X a f) : ED X (.BoolOp op [a] pos) f := by
  obtain ⟨t, p, k⟩ := h
  exact ⟨t, pe_one p, k⟩
theorem ed_and (h : ED X a fa) (h2 : ED X (.BoolOp .And (b :: rest) pos) fb) : ED X (.BoolOp .And (a :: b :: rest) pos) (x_and fa fb) := by
  obtain ⟨t, p, k⟩ := h
  obtain ⟨t2, p2, k2⟩ := h2
  refine ⟨_, pe_and p p2, fun m E G0 G e σ H r e' Q R q P => ?_⟩
  unfold x_and at q
  split at q
  · rename_i e1 h1
    refine k m E G0 G e σ H _ e1 _ R h1 fun v G' H' R' S' V' _ => ?_
    cases V'
    refine ⟨true, rfl, ?_⟩
    rw [if_pos rfl]
    exact k2 m E G0 G' e1 σ H' r e' Q R' q (P.aft S')
  · rename_i e1 h1
    cases q
    refine k m E G0 G e σ H _ _ _ R h1 fun v G' H' R' S' V' _ => ?_
    cases V'
    refine ⟨false, rfl, ?_⟩
    rw [if_neg Bool.false_ne_true]
    exact P _ G' H' R' S' (.bl false) True.intro
  · cases q
theorem ed_not (h : ED X a fa) : ED X (.UnaryOp .Not a pos) (x_not fa) := by
  obtain ⟨t, p, k⟩ := h
  refine ⟨_, pe_not p, fun m E G0 G e σ H r e' Q R q P => ?_⟩
  unfold x_not at q
  split at q
  · rename_i b e1 h1
    cases q
    refine k m E G0 G e σ H _ _ _ R h1 fun v G' H' R' S' V' _ => ?_
    cases V'
    exact ⟨b, rfl, P _ G' H' R' S' (.bl (!b)) True.intro⟩
  · cases q
def x_if (c : Ft) (f g : Fe) : Fe := fun e => match c e with
  | some (true, e1) => f e1
  | some (false, e1) => g e1
  | none => none
theorem ed_if {cx : Expr} (hc : TD X cx f) (ha : ED X a fa) (hb : ED X b fb) : ED X (.IfExp cx a b pos) (x_if f fa fb) := by
  obtain ⟨t, p, k⟩ := hc
  obtain ⟨t1, p1, k1⟩ := ha
  obtain ⟨t2, p2, k2⟩ := hb
  refine ⟨_, pe_ifExp p p1 p2, fun m E G0 G e σ H r e' Q R q P => ?_⟩
  unfold x_if at q
  split at q
  · rename_i e1 h1
    refine k m E G0 G e σ H true e1 _ R h1 fun G' H' R' S' => ?_
    rw [if_pos rfl]
    exact k1 m E G0 G' e1 σ H' r e' Q R' q (P.aft S')
  · rename_i e1 h1
    refine k m E G0 G e σ H false e1 _ R h1 fun G' H' R' S' => ?_
    rw [if_neg Bool.false_ne_true]
    exact k2 m E G0 G' e1 σ H' r e' Q R' q (P.aft S')
  · cases q
end
end DL
namespace DL
open PySem PySem.Spec PyProof.Rows L2
def d_int2 (f : Int → Int → PyData) (c : Int → Int → Bool) : PyData → PyData → Option PyData
  | .int i, .int j => if c i j = true then some (f i j) else none
  | _, _ => none
section
variable {K : PySem.W.Frag} {G H : Hp} {v : V} {d : PyData} {ds : List PyData} {vs ws : List V}
theorem int2_ok {f : Int → Int → PyData} {c : Int → Int → Bool} {dx dy d : PyData} (h : d_int2 f c dx dy = some d) : ∃ i j, dx = .int i ∧ dy = .int j ∧ c i j = true ∧ d = f i j := by
  unfold d_int2 at h
  split at h
  · rename_i i j
    by_cases z : c i j = true
    · rw [if_pos z] at h
      cases h
      exact ⟨i, j, rfl, rfl, z, rfl⟩
    · rw [if_neg z] at h
      cases h
  · cases h
theorem vb_int {C : Int → Int → Prop} {g : Int → Int → Int} {c : Int → Int → Bool} (hc : ∀ i j, c i j = true → C i j) : VB K (rI C fun i j => .int (g i j)) (fun a b => (d_int2 (fun i j => .int (g i j)) c a b).map Rs.im) :=
  VB.pure fun G H x y dx dy d Q s lx ly h k => by
    obtain ⟨i, j, rfl, rfl, z, rfl⟩ := int2_ok h
    exact ⟨i, j, lx.int, ly.int, hc i j z, k _ (.int _)⟩
theorem vb_int0 {g : Int → Int → Int} : VB K (rI0 fun i j => .int (g i j)) (fun a b => (d_int2 (fun i j => .int (g i j)) (fun _ _ => true) a b).map Rs.im) :=
  VB.pure fun G H x y dx dy d Q s lx ly h k => by
    obtain ⟨i, j, rfl, rfl, z, rfl⟩ := int2_ok h
    exact ⟨i, j, lx.int, ly.int, k _ (.int _)⟩
theorem vb_cmp0 {g : Int → Int → Bool} : VB K (rI0 fun i j => .bl (g i j)) (fun a b => (d_int2 (fun i j => .bool (g i j)) (fun _ _ => true) a b).map Rs.im) :=
  VB.pure fun G H x y dx dy d Q s lx ly h k => by
    obtain ⟨i, j, rfl, rfl, z, rfl⟩ := int2_ok h
    exact ⟨i, j, lx.int, ly.int, k _ (.bl _)⟩
end
def p_sub : PyData → PyData → Option Rs := fun a b => (d_int2 (fun i j => .int (i - j)) (fun _ _ => true) a b).map Rs.im
def p_lt : PyData → PyData → Option Rs := fun a b => (d_int2 (fun i j => .bool (decide (i < j))) (fun _ _ => true) a b).map Rs.im
def p_le : PyData → PyData → Option Rs := fun a b => (d_int2 (fun i j => .bool (decide (i ≤ j))) (fun _ _ => true) a b).map Rs.im
def p_gt : PyData → PyData → Option Rs := fun a b => (d_int2 (fun i j => .bool (decide (j < i))) (fun _ _ => true) a b).map Rs.im
def p_ge : PyData → PyData → Option Rs := fun a b => (d_int2 (fun i j => .bool (decide (j ≤ i))) (fun _ _ => true) a b).map Rs.im
/-- within 64 bits on one side -/
def mulC (i j : Int) : Bool := decide ((-18446744073709551616 < i ∧ i < 18446744073709551616) ∨ (-18446744073709551616 < j ∧ j < 18446744073709551616))
def mulWC (i j : Int) : Bool := decide (i.natAbs.log2 + j.natAbs.log2 < 1000000)
def p_mul : PyData → PyData → Option Rs := orF (fun a b => (d_int2 (fun i j => .int (i * j)) mulC a b).map Rs.im) (fun a b => (d_int2 (fun i j => .int (i * j)) mulWC a b).map Rs.im)
def divC (_ j : Int) : Bool := decide (0 < j ∧ j.natAbs.log2 < 9000)
def p_div : PyData → PyData → Option Rs := fun a b => (d_int2 (fun i j => .int (i / j)) divC a b).map Rs.im
def p_mod : PyData → PyData → Option Rs := fun a b => (d_int2 (fun i j => .int (i % j)) (fun _ j => decide (0 < j)) a b).map Rs.im
def powC (i j : Int) : Bool := decide (0 ≤ j ∧ j ≤ 1000000 ∧ i.natAbs < 18446744073709551616)
def p_pow : PyData → PyData → Option Rs := fun a b => (d_int2 (fun i j => .int (i ^ j.toNat)) powC a b).map Rs.im
section
variable {X : Cx}
theorem vb_sub : VB X.K (rI0 fun i j => .int (i - j)) p_sub := vb_int0
theorem vb_lt : VB X.K (rI0 fun i j => .bl (decide (i < j))) p_lt := vb_cmp0
theorem vb_le : VB X.K (rI0 fun i j => .bl (decide (i ≤ j))) p_le := vb_cmp0
theorem vb_gt : VB X.K (rI0 fun i j => .bl (decide (j < i))) p_gt := vb_cmp0
theorem vb_ge : VB X.K (rI0 fun i j => .bl (decide (j ≤ i))) p_ge := vb_cmp0
theorem mulC_ok {i j : Int} (h : mulC i j = true) : CMul i j := by
  have h1 := of_decide_eq_true h
  unfold CMul
  have e : (2 : Int) ^ 64 = 18446744073709551616 := by decide
  rw [e]
  exact h1
theorem vb_mul : VB X.K (fun x y H Q => (rI CMul fun i j => .int (i * j)) x y H Q ∨ (rI CMulW fun i j => .int (i * j)) x y H Q) p_mul :=
  VB.or (vb_int fun i j z => mulC_ok z) (vb_int fun i j z => (of_decide_eq_true z : i.natAbs.log2 + j.natAbs.log2 < 1000000))
theorem op_mul2 : OpR X (binaryOp .Mult) (fun x y H Q => (rI CMul fun i j => .int (i * j)) x y H Q ∨ (rI CMulW fun i j => .int (i * j)) x y H Q) := OpR.or op_mul op_mulW
theorem vb_div : VB X.K (rI CDivW fun i j => .int (i / j)) p_div := vb_int fun i j z => by
  have h := of_decide_eq_true z
  exact h
theorem vb_mod : VB X.K (rI (fun _ j => 0 < j) fun i j => .int (i % j)) p_mod := vb_int fun i j z => of_decide_eq_true z
theorem vb_pow : VB X.K (rI CPow fun i j => .int (i ^ j.toNat)) p_pow := vb_int fun i j z => by
  have h := of_decide_eq_true z
  unfold CPow
  rw [show (2 : Nat) ^ 64 = 18446744073709551616 by decide]
  exact h
end
def okLen (n : Nat) : Bool := decide (n ≤ 16777216)
theorem okLen_ok {n : Nat} (h : okLen n = true) : n ≤ sizeLine := by
  have h1 := of_decide_eq_true h
  rw [sizeLine_eq]
  exact h1
def rCatS (K : PySem.W.Frag) : R2 := fun x y H Q => ∃ a b xs zs, x = .ref a ∧ y = .ref b ∧ SqL K H a xs ∧ SqL K H b zs ∧ xs.length + zs.length ≤ sizeLine ∧ ∀ p, H p = none → Q (.ref p) (upd H p (.lst (xs ++ zs)))
theorem op_catS {X : Cx} : OpR X (binaryOp .Add) (rCatS X.K) := by
  rintro pins s σ H _ _ v u Q I rx ry ⟨a, b, xs, zs, rfl, rfl, ha, hb, small, fin⟩
  cases rx
  cases ry
  obtain ⟨us, va, ⟨⟨c1, d1, t1, sl1⟩, n1, at1, o1, _, p1⟩, z1⟩ := I.list ha
  obtain ⟨ws, vb, ⟨⟨c2, d2, t2, sl2⟩, n2, at2, o2, _, p2⟩, z2⟩ := I.list hb
  dsimp only at o1 p1 o2 p2
  subst o1 p1 o2 p2
  have la := va.length
  have lb := vb.length
  have fits : (xs ++ zs).length ≤ sizeLine := by
    rw [List.length_append]
    exact small
  have sum := PyProof.Rows.list_addW a b us.toArray ws.toArray n1 n2 d1 d2 sl1 sl2 (by simp only [List.size_toArray]; omega)
  refine concat_meets (T := "list") ⟨_, at1, rfl⟩ ⟨_, at2, rfl⟩ noFill_list_add seq_list_add F.slot_list_add F.entry_list_add (F.args_list_add_2 _ _) sum ⟨at1, at2, ?_⟩
  have laid := I.lnew (t' := s.toks) (va.append vb) fits
  rw [← List.append_toArray] at laid
  exact ⟨.ref s.heap.objs.size, _, laid, rfl, fin _ I.fresh⟩
def q_cat : PyData → PyData → Option Rs
  | .list a, .list b => if okLen (a.length + b.length) = true then some (.ac (a ++ b)) else none
  | _, _ => none
def q_catT : PyData → PyData → Option Rs
  | .tuple a, .tuple b => if okLen (a.length + b.length) = true then some (.im (.tuple (a ++ b))) else none
  | _, _ => none
def p_add : PyData → PyData → Option Rs := orF (fun a b => (d_int2 (fun i j => .int (i + j)) (fun _ _ => true) a b).map Rs.im) (orF q_cat q_catT)
section
variable {X : Cx}
theorem vb_cat {K : PySem.W.Frag} : VB K (rCatS K) q_cat := by
  intro m E G0 G e σ H x y dx dy rr Q R lx ly q P
  unfold q_cat at q
  split at q
  · rename_i a b
    by_cases z : okLen (a.length + b.length) = true
    · rw [if_pos z] at q
      cases q
      obtain ⟨p1, w1, rfl, s1, k1⟩ := lx.list R.gh
      obtain ⟨p2, w2, rfl, s2, k2⟩ := ly.list R.gh
      have z1 := okLen_ok z
      refine ⟨p1, p2, w1, w2, rfl, rfl, s1, s2, by rw [dpAll_len k1, dpAll_len k2]; exact z1, fun p hp => ?_⟩
      obtain ⟨R', S', V', N'⟩ := R.newL hp (dpAll_app k1 k2)
      exact P _ _ _ R' S' V' N'
    · rw [if_neg z] at q
      cases q
  · cases q
theorem vb_catT {K : PySem.W.Frag} : VB K (rCatA K) q_catT := by
  intro m E G0 G e σ H x y dx dy rr Q R lx ly q P
  unfold q_catT at q
  split at q
  · rename_i a b
    by_cases z : okLen (a.length + b.length) = true
    · rw [if_pos z] at q
      cases q
      obtain ⟨p1, w1, e1, s1, k1⟩ := lx.tup R.gh
      obtain ⟨p2, w2, e2, s2, k2⟩ := ly.tup R.gh
      have z1 := okLen_ok z
      refine ⟨p1, p2, w1, w2, e1, e2, s1, s2, by rw [dpAll_len k1, dpAll_len k2]; exact z1, fun h => ?_, fun h1 h2 => ?_, fun _ _ p hp => ?_⟩
      · have ea : a = [] := by
          subst h
          cases k1
          rfl
        subst ea
        rcases ly with ly | ⟨_, _, _, _, z, _⟩
        · rw [← e2]
          exact P.now R ly True.intro
        · cases z
      · have eb : b = [] := by
          subst h2
          cases k2
          rfl
        subst eb
        rcases lx with lx | ⟨_, _, _, _, z, _⟩
        · rw [← e1, List.append_nil] at *
          exact P.now R lx True.intro
        · cases z
      · obtain ⟨R', S', D'⟩ := R.newT hp (dpAll_app k1 k2)
        exact P _ _ _ R' S' D' True.intro
    · rw [if_neg z] at q
      cases q
  · cases q
theorem vb_add : VB X.K (fun x y H Q => (rI0 fun i j => .int (i + j)) x y H Q ∨ (rCatS X.K x y H Q ∨ rCatA X.K x y H Q)) p_add := VB.or vb_int0 (VB.or vb_cat vb_catT)
theorem op_add3 : OpR X (binaryOp .Add) (fun x y H Q => (rI0 fun i j => .int (i + j)) x y H Q ∨ (rCatS X.K x y H Q ∨ rCatA X.K x y H Q)) := OpR.or op_add (OpR.or op_catS op_catA)
end
def p_eq : PyData → PyData → Option Rs := fun a b => if (SeqAt.shaped a && SeqAt.shaped b) = true then some (.im (.bool (PyData.eqv a b))) else none
def p_ne : PyData → PyData → Option Rs := fun a b => if (SeqAt.shaped a && SeqAt.shaped b) = true then some (.im (.bool (!PyData.eqv a b))) else none
def seqD : PyData → Option (List PyData)
  | .list ds => some ds
  | .tuple ds => some ds
  | _ => none
def p_isN (neg : Bool) : PyData → PyData → Option PyData
  | .none, .none => some (.bool (!neg))
  | .list _, .none => some (.bool neg)
  | .tuple _, .none => some (.bool neg)
  | .bool _, .none => some (.bool neg)
  | .int _, .none => some (.bool neg)
  | .str _, .none => some (.bool neg)
  | _, _ => none
section
variable {X : Cx} {K : PySem.W.Frag}
theorem shp {a b : PyData} (h : (SeqAt.shaped a && SeqAt.shaped b) = true) : SeqAt.shaped a = true ∧ SeqAt.shaped b = true := Bool.and_eq_true_iff.mp h
theorem vb_eq : VB K (rEqD K) p_eq := by
  intro m E G0 G e σ H x y dx dy rr Q R lx ly q P
  unfold p_eq at q
  by_cases z : (SeqAt.shaped dx && SeqAt.shaped dy) = true
  · rw [if_pos z] at q
    cases q
    exact ⟨dx, dy, lx.dp R.gh, ly.dp R.gh, (shp z).1, (shp z).2, P.now R (.bl _) True.intro⟩
  · rw [if_neg z] at q
    cases q
theorem vb_ne : VB K (rNeD K) p_ne := by
  intro m E G0 G e σ H x y dx dy rr Q R lx ly q P
  unfold p_ne at q
  by_cases z : (SeqAt.shaped dx && SeqAt.shaped dy) = true
  · rw [if_pos z] at q
    cases q
    exact ⟨dx, dy, lx.dp R.gh, ly.dp R.gh, (shp z).1, (shp z).2, P.now R (.bl _) True.intro⟩
  · rw [if_neg z] at q
    cases q
end
end DL
namespace DL
open PySem PySem.Spec PyProof.Rows L2
def a_nil : Fa := fun e => some ([], e)
def a_cons (fa : Fe) (fr : Fa) : Fa := fun e => match fa e with
  | some (r, e1) => (match fr e1 with
    | some (rs, e2) => some (frzR r :: rs, e2)
    | none => none)
  | none => none
section
variable {X : Cx} {a : Expr} {es : List Expr} {fa : Fe} {fr : Fa} {pos : Pos}
theorem ad_nil : AD X [] a_nil := ⟨_, pa_nil, fun m E G0 G e σ H rs e' Q R q P => by
  cases q
  exact P [] G H R Stp.refl True.intro⟩
theorem ad_cons (ha : ED X a fa) (hr : AD X es fr) (hs : starEach (a :: es) X.env = (false, eval a X.env) :: starEach es X.env := by rfl) : AD X (a :: es) (a_cons fa fr) := by
  obtain ⟨t, p, k⟩ := ha
  obtain ⟨t2, p2, k2⟩ := hr
  refine ⟨_, pa_cons p p2 hs, fun m E G0 G e σ H rs e' Q R q P => ?_⟩
  unfold a_cons at q
  cases h1 : fa e with
  | none => simp only [h1] at q; cases q
  | some z =>
    obtain ⟨r, e1⟩ := z
    simp only [h1] at q
    cases h2 : fr e1 with
    | none => simp only [h2] at q; cases q
    | some z2 =>
      obtain ⟨rs2, e2⟩ := z2
      simp only [h2, Option.some.injEq, Prod.mk.injEq] at q
      obtain ⟨rfl, rfl⟩ := q
      refine k m E G0 G e σ H r e1 _ R h1 fun v G1 H1 R1 S1 V1 N1 => ?_
      obtain ⟨G1', R1', S1', s1, V1'⟩ := R1.freeze S1 V1 N1
      refine k2 m E G0 G1' e1 σ H1 rs2 e2 _ R1' h2 fun vs G2 H2 R2 S2 V2 => ?_
      exact P (v :: vs) G2 H2 R2 (S1'.trans S2) ⟨V1'.stp S2, V2⟩
end
/-- all arguments, as data -/
def argsD (fa : Fa) : Ev → Option (List PyData × Ev) := fun e => match fa e with
  | some (rs, e1) => (match lookAll e1 rs with
    | some ds => some (ds, e1)
    | none => none)
  | none => none
theorem argsD_ok {fa : Fa} {e e' : Ev} {ds : List PyData} (q : argsD fa e = some (ds, e')) : ∃ rs, fa e = some (rs, e') ∧ lookAll e' rs = some ds := by
  unfold argsD at q
  split at q
  · rename_i rs e1 h1
    split at q
    · rename_i ds2 h2
      cases q
      exact ⟨rs, h1, h2⟩
    · cases q
  · cases q
/-- every one of them is frozen data (no list of one's own) -/
def imR : Rs → Option PyData
  | .im d => some d
  | _ => none
def imAll : List Rs → Option (List PyData)
  | [] => some []
  | r :: rs => match imR r with
    | some d => (match imAll rs with
      | some ds => some (d :: ds)
      | none => none)
    | none => none
theorem vr_imAll {K : PySem.W.Frag} {E : Ef} {G H : Hp} {σ : St} {e : Ev} : ∀ {vs : List V} {rs : List Rs} {ds : List PyData}, VrAll K E G H σ e vs rs → imAll rs = some ds → DpAll K G vs ds
  | [], [], ds, _, q => by
    cases q
    exact .nil
  | v :: vs, r :: rs, ds, h, q => by
    simp only [imAll] at q
    cases r with
    | im d =>
      simp only [imR] at q
      cases h2 : imAll rs with
      | none => simp only [h2] at q; cases q
      | some ds2 =>
        simp only [h2, Option.some.injEq] at q
        subst q
        exact .cons h.1 (vr_imAll h.2 h2)
    | ac _ => simp only [imR] at q; cases q
    | br _ => simp only [imR] at q; cases q
  | [], _ :: _, _, h, _ => h.elim
  | _ :: _, [], _, h, _ => h.elim
def argsI (fa : Fa) : Ev → Option (List PyData × Ev) := fun e => match fa e with
  | some (rs, e1) => (match imAll rs with
    | some ds => some (ds, e1)
    | none => none)
  | none => none
theorem argsI_ok {fa : Fa} {e e' : Ev} {ds : List PyData} (q : argsI fa e = some (ds, e')) : ∃ rs, fa e = some (rs, e') ∧ imAll rs = some ds := by
  unfold argsI at q
  split at q
  · rename_i rs e1 h1
    split at q
    · rename_i ds2 h2
      cases q
      exact ⟨rs, h1, h2⟩
    · cases q
  · cases q
def x_tup (fa : Fa) : Fe := fun e => match argsI fa e with
  | some (ds, e1) => if okLen ds.length = true then some (.im (.tuple ds), e1) else none
  | none => none
def x_lst (fa : Fa) : Fe := fun e => match argsI fa e with
  | some (ds, e1) => if okLen ds.length = true then some (.ac ds, e1) else none
  | none => none
section
variable {X : Cx} {es : List Expr} {fa : Fa} {pos : Pos}
theorem ed_tup {n} (h : AD X es fa) : ED X (.Tuple es n pos) (x_tup fa) := by
  obtain ⟨t, p, k⟩ := h
  refine ⟨_, pe_tup p, fun m E G0 G e σ H r e' Q R q P => ?_⟩
  unfold x_tup at q
  cases h1 : argsI fa e with
  | none => simp only [h1] at q; cases q
  | some z =>
    obtain ⟨ds, e1⟩ := z
    simp only [h1] at q
    by_cases z : okLen ds.length = true
    · rw [if_pos z] at q
      simp only [Option.some.injEq, Prod.mk.injEq] at q
      obtain ⟨rfl, rfl⟩ := q
      obtain ⟨rs, q1, q2⟩ := argsI_ok h1
      refine k m E G0 G e σ H rs e1 _ R q1 fun vs G1 H1 R1 S1 V1 => ?_
      have dv := vr_imAll V1 q2
      refine ⟨by rw [dpAll_len dv]; exact okLen_ok z, fun p hp => ?_⟩
      obtain ⟨R', S', D'⟩ := R1.newT hp dv
      exact P _ _ _ R' (S1.trans S') D' True.intro
    · rw [if_neg z] at q
      cases q
theorem ed_lst (h : AD X es fa) : ED X (.List es pos) (x_lst fa) := by
  obtain ⟨t, p, k⟩ := h
  refine ⟨_, pe_lst p, fun m E G0 G e σ H r e' Q R q P => ?_⟩
  unfold x_lst at q
  cases h1 : argsI fa e with
  | none => simp only [h1] at q; cases q
  | some z =>
    obtain ⟨ds, e1⟩ := z
    simp only [h1] at q
    by_cases z : okLen ds.length = true
    · rw [if_pos z] at q
      simp only [Option.some.injEq, Prod.mk.injEq] at q
      obtain ⟨rfl, rfl⟩ := q
      obtain ⟨rs, q1, q2⟩ := argsI_ok h1
      refine k m E G0 G e σ H rs e1 _ R q1 fun vs G1 H1 R1 S1 V1 => ?_
      have dv := vr_imAll V1 q2
      refine ⟨by rw [dpAll_len dv]; exact okLen_ok z, fun p hp => ?_⟩
      obtain ⟨R', S', V', N'⟩ := R1.newL hp dv
      exact P _ _ _ R' (S1.trans S') V' (nw_back S1 _ N')
    · rw [if_neg z] at q
      cases q
/-- [..] * n -/
def x_rep (fa : Fa) (fb : Fe) : Fe := fun e => match argsI fa e with
  | some (ds, e1) => (match fb e1 with
    | some (.im (.int k), e2) => if (okLen ds.length && (decide (-9223372036854775808 ≤ k ∧ k < 9223372036854775808) && okLen (ds.length * k.toNat))) = true then some (.ac (List.replicate k.toNat ds).flatten, e2) else none
    | _ => none)
  | none => none
theorem ed_rep {b : Expr} {fb : Fe} {p1 : Pos} (h : AD X es fa) (hb : ED X b fb) : ED X (.BinOp (.List es p1) .Mult b pos) (x_rep fa fb) := by
  obtain ⟨t, p, k⟩ := h
  obtain ⟨t2, p2, k2⟩ := hb
  refine ⟨_, pe_op op_rep (pe_lst p) p2, fun m E G0 G e σ H r e' Q R q P => ?_⟩
  unfold x_rep at q
  cases h1 : argsI fa e with
  | none => simp only [h1] at q; cases q
  | some z =>
    obtain ⟨ds, e1⟩ := z
    simp only [h1] at q
    split at q
    · rename_i kk e2 h2
      by_cases z : (okLen ds.length && (decide (-9223372036854775808 ≤ kk ∧ kk < 9223372036854775808) && okLen (ds.length * kk.toNat))) = true
      · rw [if_pos z] at q
        simp only [Option.some.injEq, Prod.mk.injEq] at q
        obtain ⟨rfl, rfl⟩ := q
        obtain ⟨z1, z2⟩ := Bool.and_eq_true_iff.mp z
        obtain ⟨z2, z3⟩ := Bool.and_eq_true_iff.mp z2
        have z2 := of_decide_eq_true z2
        obtain ⟨rs, q1, q2⟩ := argsI_ok h1
        refine k m E G0 G e σ H rs e1 _ R q1 fun vs G1 H1 R1 S1 V1 => ?_
        have dv := vr_imAll V1 q2
        refine ⟨by rw [dpAll_len dv]; exact okLen_ok z1, fun p hp => ?_⟩
        obtain ⟨R', S', V', N'⟩ := R1.newL hp dv
        refine k2 m E G0 G1 e1 σ _ _ e2 _ R' h2 fun u G2 H2 R2 S2 V2 _ => ?_
        cases V2
        obtain ⟨p', ws', ep, _, g2, h3, d3, _⟩ := V'.stp S2
        cases ep
        refine ⟨_, kk, ws', rfl, rfl, h3, z2.1, z2.2, by rw [dpAll_len d3]; exact okLen_ok z3, fun p2 hp2 => ?_⟩
        obtain ⟨R3, S3, V3, N3⟩ := R2.newL hp2 (dpAll_rep d3 kk.toNat)
        exact P _ _ _ R3 (S1.trans (S'.trans (S2.trans S3))) V3 (nw_back (S1.trans (S'.trans S2)) _ N3)
      · rw [if_neg z] at q
        cases q
    · cases q
end
def p_ix : PyData → PyData → Option Rs := fun a b => match seqD a, b with
  | some ds, .int i => (atI ds i).map Rs.im
  | _, _ => none
theorem dpAll_atI {K : PySem.W.Frag} {G : Hp} {vs : List V} {ds : List PyData} {i : Int} {d : PyData} (h : DpAll K G vs ds) (q : atI ds i = some d) : ∃ v, atI vs i = some v ∧ Dp K G v d := by
  have e : atI vs i = (ixN vs.length i).bind fun j => vs[j]? := rfl
  rw [e, dpAll_len h]
  have q : ((ixN ds.length i).bind fun j => ds[j]?) = some d := q
  cases z : ixN ds.length i with
  | none => rw [z] at q; cases q
  | some j =>
    rw [z] at q
    exact dpAll_get h q
def rIx2 (K : PySem.W.Frag) : R2 := fun x y H Q => rIxL K x y H Q ∨ rIxT K x y H Q
theorem vb_ix {K : PySem.W.Frag} : VB K (rIx2 K) p_ix := by
  intro m E G0 G e σ H x y dx dy rr Q R lx ly q P
  unfold p_ix at q
  split at q
  · rename_i ds i h
    cases z : atI ds i with
    | none => rw [z] at q; cases q
    | some d =>
      rw [z] at q
      cases q
      unfold seqD at h
      split at h
      · cases h
        obtain ⟨p, ws, ex, s1, k⟩ := lx.list R.gh
        obtain ⟨v, e1, e2⟩ := dpAll_atI k z
        exact .inl ⟨p, ws, i, v, ex, ly.int, s1, e1, P.now R e2 True.intro⟩
      · cases h
        obtain ⟨p, ws, ex, s1, k⟩ := lx.tup R.gh
        obtain ⟨v, e1, e2⟩ := dpAll_atI k z
        exact .inr ⟨p, ws, i, v, ex, ly.int, s1, e1, P.now R e2 True.intro⟩
      · cases h
  · cases q
abbrev x_ix (fa fb : Fe) : Fe := x_bin p_ix fa fb
section
variable {X : Cx} {a b : Expr} {fa fb : Fe} {pos : Pos}
theorem ed_ix (ha : ED X a fa) (hb : ED X b fb) (hs : PlainIx b := by intro _ _; rfl) : ED X (.Subscript a b pos) (x_ix fa fb) := by
  obtain ⟨ta, tb, pa, pb, k2⟩ := two_ok ha hb
  exact ⟨_, pe_ix (ix_list.or ix_tup) pa pb hs, bin_ok (r := rIx2 X.K) vb_ix k2⟩
end
abbrev Fo := Ev → Option (Option Int × Ev)
structure OD (X : Cx) (o : Option Expr) (f : Fo) : Prop where
  ex : ∃ t, PO X o t ∧ ∀ (m : Option Addr) (E : Ef) (G0 G : Hp) (e : Ev) (σ : St) (H : Hp) (i : Option Int) (e' : Ev) (Q : Option Int → Hp → Prop),
    Rl X.K m E G0 G e σ H → f e = some (i, e') → (∀ G' H', Rl X.K m E G0 G' e' σ H' → Stp σ G H e G' H' e' → Q i H') → t σ H Q
def o_no : Fo := fun e => some (none, e)
def o_at (f : Fe) : Fo := fun e => match f e with
  | some (.im (.int i), e1) => some (some i, e1)
  | _ => none
def cutD {α : Type} (ds : List α) (lo hi : Option Int) : List α := (ds.drop (HT.sIx ds.length 0 lo)).take (HT.sIx ds.length ds.length hi - HT.sIx ds.length 0 lo)
def sliced (lo hi : Option Int) : PyData → Option Rs
  | .list ds => some (.ac (cutD ds lo hi))
  | .tuple ds => some (.im (.tuple (cutD ds lo hi)))
  | _ => none
def x_sl (fa : Fe) (fl fh : Fo) : Fe := fun e => match fa e with
  | some (r, e1) => (match fl e1 with
    | some (lo, e2) => (match fh e2 with
      | some (hi, e3) => (match lookR e3 (frzR r) with
        | some d => (match sliced lo hi d with
          | some r2 => some (r2, e3)
          | none => none)
        | none => none)
      | none => none)
    | none => none)
  | none => none
theorem dpAll_cut {K : PySem.W.Frag} {G : Hp} {vs : List V} {ds : List PyData} {lo hi : Option Int} (h : DpAll K G vs ds) : DpAll K G (cutV vs lo hi) (cutD ds lo hi) := by
  unfold cutV cutD
  rw [dpAll_len h]
  exact dpAll_take _ (dpAll_drop _ h)
theorem cutD_all {α : Type} {ds : List α} {lo hi : Option Int} (h1 : HT.sIx ds.length 0 lo = 0) (h2 : HT.sIx ds.length ds.length hi = ds.length) : cutD ds lo hi = ds := by
  unfold cutD
  rw [h1, h2]
  exact List.take_length
section
variable {X : Cx} {a b : Expr} {fa fb : Fe} {fl fh : Fo} {lo hi : Option Expr} {pos p2 : Pos}
theorem od_no : OD X none o_no := ⟨_, po_none, fun m E G0 G e σ H i e' Q R q P => by
  cases q
  exact P G H R Stp.refl⟩
theorem od_at (h : ED X a fa) : OD X (some a) (o_at fa) := by
  obtain ⟨t, p, k⟩ := h
  refine ⟨_, po_some p, fun m E G0 G e σ H i e' Q R q P => ?_⟩
  unfold o_at at q
  split at q
  · rename_i j e1 h1
    simp only [Option.some.injEq, Prod.mk.injEq] at q
    obtain ⟨rfl, rfl⟩ := q
    refine k m E G0 G e σ H _ e1 _ R h1 fun v G1 H1 R1 S1 V1 _ => ?_
    cases V1
    exact ⟨j, rfl, P G1 H1 R1 S1⟩
  · cases q
theorem ed_sl (ha : ED X a fa) (hl : OD X lo fl) (hh : OD X hi fh) : ED X (.Subscript a (.Slice lo hi none p2) pos) (x_sl fa fl fh) := by
  obtain ⟨t, p, k⟩ := ha
  obtain ⟨t1, q1, k1⟩ := hl
  obtain ⟨t2, q2, k2⟩ := hh
  refine ⟨_, pe_slice (sl_list.or sl_tupA) p q1 q2, fun m E G0 G e σ H r e' Q R q P => ?_⟩
  unfold x_sl at q
  cases h1 : fa e with
  | none => simp only [h1] at q; cases q
  | some z =>
    obtain ⟨r0, e1⟩ := z
    simp only [h1] at q
    cases h2 : fl e1 with
    | none => simp only [h2] at q; cases q
    | some z =>
      obtain ⟨i, e2⟩ := z
      simp only [h2] at q
      cases h3 : fh e2 with
      | none => simp only [h3] at q; cases q
      | some z =>
        obtain ⟨j, e3⟩ := z
        simp only [h3] at q
        cases h4 : lookR e3 (frzR r0) with
        | none => simp only [h4] at q; cases q
        | some d =>
          simp only [h4] at q
          cases h5 : sliced i j d with
          | none => simp only [h5] at q; cases q
          | some r2 =>
            simp only [h5, Option.some.injEq, Prod.mk.injEq] at q
            obtain ⟨rfl, rfl⟩ := q
            refine k m E G0 G e σ H r0 e1 _ R h1 fun v G1 H1 R1 S1 V1 N1 => ?_
            obtain ⟨G1', R1', S1', s1, V1'⟩ := R1.freeze S1 V1 N1
            refine k1 m E G0 G1' e1 σ H1 i e2 _ R1' h2 fun G2 H2 R2 S2 => ?_
            refine k2 m E G0 G2 e2 σ H2 j e3 _ R2 h3 fun G3 H3 R3 S3 => ?_
            have L := R3.look ((V1'.stp S2).stp S3) h4
            have S := S1'.trans (S2.trans S3)
            unfold sliced at h5
            split at h5
            · cases h5
              obtain ⟨p', ws, ex, s2, dk⟩ := L.list R3.gh
              refine .inl ⟨p', ws, ex, s2, fun p hp => ?_⟩
              obtain ⟨R', S', V', N'⟩ := R3.newL hp (dpAll_cut dk)
              exact P _ _ _ R' (S.trans S') V' (nw_back S _ N')
            · cases h5
              rename_i ds
              obtain ⟨p', ws, ex, s2, dk⟩ := L.tup R3.gh
              refine .inr ⟨p', ws, ex, s2, fun hw => ?_, fun _ p hp => ?_⟩
              · rw [dpAll_len dk] at hw
                rw [cutD_all hw.1 hw.2] at P
                rcases L with L | ⟨_, _, _, _, z, _⟩
                · rw [← ex]
                  exact P _ _ _ R3 S L True.intro
                · cases z
              · obtain ⟨R', S', D'⟩ := R3.newT hp (dpAll_cut dk)
                exact P _ _ _ R' (S.trans S') D' True.intro
            · cases h5
/-- -n -/
def x_neg (fa : Fe) : Fe := fun e => match fa e with
  | some (.im (.int i), e1) => some (.im (.int (-i)), e1)
  | _ => none
theorem ed_neg (ha : ED X a fa) : ED X (.UnaryOp .USub a pos) (x_neg fa) := by
  obtain ⟨t, p, k⟩ := ha
  refine ⟨_, pe_un un_neg p, fun m E G0 G e σ H r e' Q R q P => ?_⟩
  unfold x_neg at q
  split at q
  · rename_i i e1 h1
    cases q
    refine k m E G0 G e σ H _ _ _ R h1 fun v G1 H1 R1 S1 V1 _ => ?_
    cases V1
    exact ⟨i, rfl, P _ _ _ R1 S1 (.int _) True.intro⟩
  · cases q
end
/-- an n-place rule by values, over data -/
def VC (K : PySem.W.Frag) (r : List V → Hp → VK → Prop) (φ : List PyData → Option Rs) : Prop :=
  ∀ (m : Option Addr) (E : Ef) (G0 G : Hp) (e : Ev) (σ : St) (H : Hp) (vs : List V) (ds : List PyData) (rr : Rs) (Q : VK), Rl K m E G0 G e σ H → LvAll K G H vs ds → φ ds = some rr → Po K m E G0 σ G H e rr e Q → r vs H Q
def orC {α γ : Type} (φ ψ : α → Option γ) : α → Option γ := fun a => match φ a with
  | some r => some r
  | none => ψ a
theorem VC.or {K : PySem.W.Frag} {r r' : List V → Hp → VK → Prop} {φ ψ : List PyData → Option Rs} (h : VC K r φ) (h' : VC K r' ψ) : VC K (fun vs H Q => r vs H Q ∨ r' vs H Q) (orC φ ψ) := by
  intro m E G0 G e σ H vs ds rr Q R l q P
  unfold orC at q
  cases h1 : φ ds with
  | some r1 =>
    simp only [h1, Option.some.injEq] at q
    subst q
    exact .inl (h m E G0 G e σ H vs ds _ Q R l h1 P)
  | none =>
    simp only [h1] at q
    exact .inr (h' m E G0 G e σ H vs ds rr Q R l q P)
def x_cb (φ : List PyData → Option Rs) (fa : Fa) : Fe := fun e => match argsD fa e with
  | some (ds, e1) => (match φ ds with
    | some r => some (r, e1)
    | none => none)
  | none => none
section
variable {X : Cx} {a : Expr} {es : List Expr} {fa : Fa} {pos p : Pos} {x : Str} {id T : String} {r : List V → Hp → VK → Prop} {φ : List PyData → Option Rs}
theorem cb_ok {t : TA} (hv : VC X.K r φ) (k : ∀ (m : Option Addr) (E : Ef) (G0 G : Hp) (e : Ev) (σ : St) (H : Hp) (rs : List Rs) (e' : Ev) (Q : List V → Hp → Prop),
    Rl X.K m E G0 G e σ H → fa e = some (rs, e') → (∀ vs G' H', Rl X.K m E G0 G' e' σ H' → Stp σ G H e G' H' e' → VrAll X.K E G' H' σ e' vs rs → Q vs H') → t σ H Q)
    (m : Option Addr) (E : Ef) (G0 G : Hp) (e : Ev) (σ : St) (H : Hp) (rr : Rs) (e' : Ev) (Q : VK) (R : Rl X.K m E G0 G e σ H) (q : x_cb φ fa e = some (rr, e')) (P : Po X.K m E G0 σ G H e rr e' Q) : tCB r t σ H Q := by
  unfold x_cb at q
  cases h1 : argsD fa e with
  | none => simp only [h1] at q; cases q
  | some z =>
    obtain ⟨ds, e1⟩ := z
    simp only [h1] at q
    cases h2 : φ ds with
    | none => simp only [h2] at q; cases q
    | some r2 =>
      simp only [h2, Option.some.injEq, Prod.mk.injEq] at q
      obtain ⟨rfl, rfl⟩ := q
      obtain ⟨rs, q1, q2⟩ := argsD_ok h1
      exact k m E G0 G e σ H rs e1 _ R q1 fun vs G1 H1 R1 S1 V1 => hv m E G0 G1 e1 σ H1 vs ds _ Q R1 (R1.lookAll V1 q2) h2 (P.aft S1)
theorem ed_cb (hv : VC X.K r φ) (hc : CallR X (.builtin id) r) (hm : X.mg x = none) (h : AD X (a :: es) fa) (hb : bootBuiltins x = some (.builtin id) := by decide +kernel) (hg : Gl X x := by rfl) (hn : x ≠ "__name__" := by decide) (hdb : (x == ("__debug__" : Str)) = false := by decide)
    (he : starEach (a :: es) X.env = (false, eval a X.env) :: starEach es X.env := by rfl) (hpl : (backTo pos (starEach es X.env)).any (·.1) = false := by rfl) : ED X (.Call (.Name x p) (a :: es) [] pos) (x_cb φ fa) := by
  obtain ⟨t, pa, k⟩ := h
  exact ⟨_, pe_callB hc hg hm hb pa hn hdb he hpl, cb_ok hv k⟩
theorem ed_ct (hv : VC X.K r φ) (hc : CallR X (.type T) r) (hm : X.mg x = none) (h : AD X (a :: es) fa) (hb : bootBuiltins x = some (.type T) := by decide +kernel) (hg : Gl X x := by rfl) (hn : x ≠ "__name__" := by decide) (hdb : (x == ("__debug__" : Str)) = false := by decide)
    (he : starEach (a :: es) X.env = (false, eval a X.env) :: starEach es X.env := by rfl) (hpl : (backTo pos (starEach es X.env)).any (·.1) = false := by rfl) : ED X (.Call (.Name x p) (a :: es) [] pos) (x_cb φ fa) := by
  obtain ⟨t, pa, k⟩ := h
  exact ⟨_, pe_callTy hc hg hm hb pa hn hdb he hpl, cb_ok hv k⟩
end
theorem lv1 {K : PySem.W.Frag} {G H : Hp} {vs : List V} {d : PyData} (h : LvAll K G H vs [d]) : ∃ v, vs = [v] ∧ Lv K G H v d := by
  match vs, h with
  | [v], h => exact ⟨v, rfl, h.1⟩
  | _ :: _ :: _, h => exact h.2.elim
theorem lv2 {K : PySem.W.Frag} {G H : Hp} {vs : List V} {c d : PyData} (h : LvAll K G H vs [c, d]) : ∃ u v, vs = [u, v] ∧ Lv K G H u c ∧ Lv K G H v d := by
  match vs, h with
  | [u, v], h => exact ⟨u, v, rfl, h.1, h.2.1⟩
  | _ :: _ :: _ :: _, h => exact h.2.2.elim
  | [_], h => exact h.2.elim
def c_len : List PyData → Option Rs
  | [.list ds] => some (.im (.int ds.length))
  | [.tuple ds] => some (.im (.int ds.length))
  | _ => none
def c_abs : List PyData → Option Rs
  | [.int i] => some (.im (.int (if i < 0 then -i else i)))
  | _ => none
def c_min2 : List PyData → Option Rs
  | [.int i, .int j] => some (.im (.int (if j < i then j else i)))
  | _ => none
def c_int : List PyData → Option Rs
  | [.int i] => some (.im (.int i))
  | [.bool k] => some (.im (.int (if k = true then 1 else 0)))
  | _ => none
def c_list : List PyData → Option Rs
  | [.list ds] => some (.ac ds)
  | [.tuple ds] => some (.ac ds)
  | _ => none
def c_tuple : List PyData → Option Rs
  | [.list ds] => some (.im (.tuple ds))
  | [.tuple ds] => some (.im (.tuple ds))
  | _ => none
section
variable {K : PySem.W.Frag} {X : Cx}
theorem vc_len : VC K (fun xs H Q => ∃ p ys, xs = [.ref p] ∧ (SqL K H p ys ∨ SqT K H p ys) ∧ Q (.int ys.length) H) c_len := by
  intro m E G0 G e σ H vs ds rr Q R l q P
  unfold c_len at q
  split at q
  · cases q
    obtain ⟨v, rfl, lv⟩ := lv1 l
    obtain ⟨p, ws, rfl, s1, k⟩ := lv.list R.gh
    refine ⟨p, ws, rfl, .inl s1, ?_⟩
    rw [dpAll_len k]
    exact P.now R (.int _) True.intro
  · cases q
    obtain ⟨v, rfl, lv⟩ := lv1 l
    obtain ⟨p, ws, rfl, s1, k⟩ := lv.tup R.gh
    refine ⟨p, ws, rfl, .inr s1, ?_⟩
    rw [dpAll_len k]
    exact P.now R (.int _) True.intro
  · cases q
theorem vc_abs : VC K (fun xs H Q => ∃ i, xs = [.int i] ∧ Q (.int (if i < 0 then -i else i)) H) c_abs := by
  intro m E G0 G e σ H vs ds rr Q R l q P
  unfold c_abs at q
  split at q
  · cases q
    obtain ⟨v, rfl, lv⟩ := lv1 l
    exact ⟨_, by rw [lv.int], P.now R (.int _) True.intro⟩
  · cases q
theorem vc_min2 : VC K (fun xs H Q => ∃ i j, xs = [.int i, .int j] ∧ Q (.int (if j < i then j else i)) H) c_min2 := by
  intro m E G0 G e σ H vs ds rr Q R l q P
  unfold c_min2 at q
  split at q
  · cases q
    obtain ⟨u, v, rfl, l1, l2⟩ := lv2 l
    exact ⟨_, _, by rw [l1.int, l2.int], P.now R (.int _) True.intro⟩
  · cases q
theorem vc_int : VC K (fun xs H Q => (∃ i, xs = [.int i] ∧ Q (.int i) H) ∨ ∃ k, xs = [.bl k] ∧ Q (.int (if k then 1 else 0)) H) c_int := by
  intro m E G0 G e σ H vs ds rr Q R l q P
  unfold c_int at q
  split at q
  · cases q
    obtain ⟨v, rfl, lv⟩ := lv1 l
    exact .inl ⟨_, by rw [lv.int], P.now R (.int _) True.intro⟩
  · cases q
    obtain ⟨v, rfl, lv⟩ := lv1 l
    exact .inr ⟨_, by rw [lv.bool], P.now R (.int _) True.intro⟩
  · cases q
theorem vc_list : VC K (fun xs H Q => ∃ p ys, xs = [.ref p] ∧ (SqL K H p ys ∨ SqT K H p ys) ∧ ∀ l, H l = none → Q (.ref l) (upd H l (.lst ys))) c_list := by
  intro m E G0 G e σ H vs ds rr Q R l q P
  unfold c_list at q
  split at q
  · cases q
    obtain ⟨v, rfl, lv⟩ := lv1 l
    obtain ⟨p, ws, rfl, s1, k⟩ := lv.list R.gh
    refine ⟨p, ws, rfl, .inl s1, fun p2 hp => ?_⟩
    obtain ⟨R', S', V', N'⟩ := R.newL hp k
    exact P _ _ _ R' S' V' N'
  · cases q
    obtain ⟨v, rfl, lv⟩ := lv1 l
    obtain ⟨p, ws, rfl, s1, k⟩ := lv.tup R.gh
    refine ⟨p, ws, rfl, .inr s1, fun p2 hp => ?_⟩
    obtain ⟨R', S', V', N'⟩ := R.newL hp k
    exact P _ _ _ R' S' V' N'
  · cases q
theorem vc_tuple : VC K (fun xs H Q => ∃ p ys, xs = [.ref p] ∧ ((SqL K H p ys ∧ ∀ l, H l = none → Q (.ref l) (upd H l (.tup ys))) ∨ (SqT K H p ys ∧ Q (.ref p) H))) c_tuple := by
  intro m E G0 G e σ H vs ds rr Q R l q P
  unfold c_tuple at q
  split at q
  · cases q
    obtain ⟨v, rfl, lv⟩ := lv1 l
    obtain ⟨p, ws, rfl, s1, k⟩ := lv.list R.gh
    refine ⟨p, ws, rfl, .inl ⟨s1, fun p2 hp => ?_⟩⟩
    obtain ⟨R', S', D'⟩ := R.newT hp k
    exact P _ _ _ R' S' D' True.intro
  · cases q
    obtain ⟨v, rfl, lv⟩ := lv1 l
    obtain ⟨p, ws, rfl, s1, k⟩ := lv.tup R.gh
    refine ⟨p, ws, rfl, .inr ⟨s1, ?_⟩⟩
    rcases lv with lv | ⟨_, _, _, _, z, _⟩
    · exact P.now R lv True.intro
    · cases z
  · cases q
end
end DL
namespace DL
open PySem PySem.Spec PyProof.Rows L2
inductive Ty where
  | int | bool | str | tuple | list
def Ty.nm : Ty → String
  | .int => "int"
  | .bool => "bool"
  | .str => "str"
  | .tuple => "tuple"
  | .list => "list"
def isD : Ty → PyData → Option Bool
  | _, .dict _ => none
  | .int, .int _ => some true
  | .int, .bool _ => some true
  | .bool, .bool _ => some true
  | .str, .str _ => some true
  | .tuple, .tuple _ => some true
  | .list, .list _ => some true
  | _, _ => some false
def tyN : PyData → String
  | .none => "NoneType"
  | .bool _ => "bool"
  | .int _ => "int"
  | .str _ => "str"
  | .list _ => "list"
  | .tuple _ => "tuple"
  | .dict _ => "dict"
theorem isD_ok {T : Ty} {d : PyData} {b : Bool} (h : isD T d = some b) : kitB (tyN d) T.nm = some b := by
  cases d <;> cases T <;> first
    | (cases h; done)
    | (cases h; simp only [tyN, Ty.nm]; decide +kernel)
theorem lv_ty {K : PySem.W.Frag} {G H : Hp} {v : V} {d : PyData} (s : Same G H) (h : Lv K G H v d) : TyX K H v (.type (tyN d)) := by
  have h := h.dp s
  cases h with
  | non => exact .base .non
  | bl b => exact .base (.bl b)
  | int i => exact .base (.int i)
  | str x => exact .base (.str x)
  | lst h1 _ =>
    rcases h1 with (h2 | ⟨o, h2⟩) | ⟨o, its, n, hk, hc, _⟩
    · exact .base (.lst h2)
    · exact .base (.frz h2)
    · exact .kList hk hc
  | tup h1 _ =>
    rcases h1 with (h2 | ⟨o, h2⟩) | ⟨o, its, n, hk, hc, _⟩
    · exact .base (.tup h2)
    · exact .fTuple h2
    · exact .kTuple hk hc
def x_isi (T : Ty) (f : Fe) : Fe := fun e => match f e with
  | some (r, e1) => (match lookR e1 (frzR r) with
    | some d => (match isD T d with
      | some b => some (.im (.bool b), e1)
      | none => none)
    | none => none)
  | none => none
section
variable {X : Cx} {a : Expr} {fa : Fe} {pos p p2 : Pos}
theorem ed_isi (T : Ty) (ha : ED X a fa) {y : Str} (hm : X.mg "isinstance" = none) (hmT : X.mg y = none) (hy : y = Str.ofString T.nm := by rfl) (hb : bootBuiltins y = some (.type T.nm) := by decide +kernel) (hg : Gl X "isinstance" := by rfl) (hgT : Gl X y := by rfl)
    (hny : y ≠ "__name__" := by decide) (hdy : (y == ("__debug__" : Str)) = false := by decide)
    (h1 : starEach [.Name y p2] X.env = (false, eval (.Name y p2) X.env) :: starEach [] X.env := by rfl)
    (he : starEach [a, .Name y p2] X.env = (false, eval a X.env) :: starEach [.Name y p2] X.env := by rfl) (hpl : (backTo pos (starEach [.Name y p2] X.env)).any (·.1) = false := by rfl) :
    ED X (.Call (.Name "isinstance" p) [a, .Name y p2] [] pos) (x_isi T fa) := by
  obtain ⟨t, pa, k⟩ := ha
  refine ⟨_, pe_callB call_isi hg hm (by decide +kernel) (pa_cons pa (pa_cons (pe_bltn (v := .ty T.nm) hgT hmT hb rfl hny hdy) pa_nil h1) he) (by decide) (by decide) he hpl, fun m E G0 G e σ H r e' Q R q P => ?_⟩
  unfold x_isi at q
  cases h1 : fa e with
  | none => simp only [h1] at q; cases q
  | some z =>
    obtain ⟨r0, e1⟩ := z
    simp only [h1] at q
    cases h4 : lookR e1 (frzR r0) with
    | none => simp only [h4] at q; cases q
    | some d =>
      simp only [h4] at q
      cases h5 : isD T d with
      | none => simp only [h5] at q; cases q
      | some b =>
        simp only [h5, Option.some.injEq, Prod.mk.injEq] at q
        obtain ⟨rfl, rfl⟩ := q
        refine k m E G0 G e σ H r0 e1 _ R h1 fun v G1 H1 R1 S1 V1 N1 => ?_
        obtain ⟨G1', R1', S1', s1, V1'⟩ := R1.freeze S1 V1 N1
        have L := R1'.look V1' h4
        exact ⟨v, .ty T.nm, .type (tyN d), .type T.nm, b, rfl, .ty _, lv_ty R1'.gh L, kit_ty (isD_ok h5), P _ _ _ R1' S1' (.bl _) True.intro⟩
end
def unI : List PyData → Option (List Int)
  | [] => some []
  | .int i :: ds => (unI ds).map (i :: ·)
  | _ :: _ => none
def unB : List PyData → Option (List Bool)
  | [] => some []
  | .bool b :: ds => (unB ds).map (b :: ·)
  | _ :: _ => none
theorem unI_ok : ∀ {ds : List PyData} {ns : List Int}, unI ds = some ns → ds = ns.map PyData.int
  | [], ns, h => by
    cases h
    rfl
  | d :: ds, ns, h => by
    cases d with
    | int i =>
      simp only [unI] at h
      cases z : unI ds with
      | none => rw [z] at h; cases h
      | some ms =>
        rw [z] at h
        cases h
        rw [unI_ok z]
        rfl
    | _ => simp only [unI] at h; cases h
theorem unB_ok : ∀ {ds : List PyData} {ns : List Bool}, unB ds = some ns → ds = ns.map PyData.bool
  | [], ns, h => by
    cases h
    rfl
  | d :: ds, ns, h => by
    cases d with
    | bool i =>
      simp only [unB] at h
      cases z : unB ds with
      | none => rw [z] at h; cases h
      | some ms =>
        rw [z] at h
        cases h
        rw [unB_ok z]
        rfl
    | _ => simp only [unB] at h; cases h
theorem unB_map : ∀ ns : List Bool, unB (ns.map PyData.bool) = some ns
  | [] => rfl
  | n :: ns => by
    show (unB (ns.map PyData.bool)).map (n :: ·) = _
    rw [unB_map ns]
    rfl
theorem dp_ints {K : PySem.W.Frag} {G : Hp} : ∀ {vs : List V} {ns : List Int}, DpAll K G vs (ns.map PyData.int) → vs = ns.map V.int
  | [], [], _ => rfl
  | [], _ :: _, h => by cases h
  | _ :: _, [], h => by cases h
  | v :: vs, n :: ns, h => by
    cases h with
    | cons h t =>
      cases h
      rw [dp_ints t]
      rfl
theorem dp_bools {K : PySem.W.Frag} {G : Hp} : ∀ {vs : List V} {ns : List Bool}, DpAll K G vs (ns.map PyData.bool) → vs = ns.map V.bl
  | [], [], _ => rfl
  | [], _ :: _, h => by cases h
  | _ :: _, [], h => by cases h
  | v :: vs, n :: ns, h => by
    cases h with
    | cons h t =>
      cases h
      rw [dp_bools t]
      rfl
def c_intsL (g : List Int → Option Rs) : List PyData → Option Rs
  | [.list ds] => (match unI ds with
    | some ns => g ns
    | none => none)
  | _ => none
def c_all : List PyData → Option Rs
  | [.list ds] => (match unB ds with
    | some bs => some (.im (.bool (bs.all id)))
    | none => none)
  | _ => none
/-- sorted, ascending, falling, by insertion (what the kernel can reckon) -/
def insB {α : Type} (le : α → α → Bool) (x : α) : List α → List α
  | [] => [x]
  | y :: l => match le x y with
    | true => x :: y :: l
    | false => y :: insB le x l
def sortB {α : Type} (le : α → α → Bool) : List α → List α
  | [] => []
  | x :: l => insB le x (sortB le l)
theorem insB_perm {α : Type} (le : α → α → Bool) (x : α) : ∀ l : List α, (insB le x l).Perm (x :: l)
  | [] => List.Perm.refl _
  | y :: l => by
    unfold insB
    split
    · exact List.Perm.refl _
    · exact (List.Perm.cons _ (insB_perm le x l)).trans (List.Perm.swap ..)
theorem sortB_perm {α : Type} (le : α → α → Bool) : ∀ l : List α, (sortB le l).Perm l
  | [] => List.Perm.refl _
  | x :: l => (insB_perm le x _).trans (List.Perm.cons _ (sortB_perm le l))
theorem insB_pw {α : Type} {le : α → α → Bool} (tr : ∀ a b c, le a b = true → le b c = true → le a c = true) (to : ∀ a b, (le a b || le b a) = true) (x : α) : ∀ {l : List α}, l.Pairwise (fun a b => le a b = true) → (insB le x l).Pairwise (fun a b => le a b = true)
  | [], _ => List.pairwise_singleton _ _
  | y :: l, h => by
    obtain ⟨h1, h2⟩ := List.pairwise_cons.mp h
    unfold insB
    split
    · rename_i e
      refine List.pairwise_cons.mpr ⟨fun z hz => ?_, h⟩
      rcases List.mem_cons.mp hz with q | q
      · rw [q]; exact e
      · exact tr _ _ _ e (h1 z q)
    · rename_i e
      refine List.pairwise_cons.mpr ⟨fun z hz => ?_, insB_pw tr to x h2⟩
      rcases List.mem_cons.mp ((insB_perm le x l).mem_iff.mp hz) with q | q
      · rw [q]
        have := to x y
        rwa [e, Bool.false_or] at this
      · exact h1 z q
theorem sortB_pw {α : Type} {le : α → α → Bool} (tr : ∀ a b c, le a b = true → le b c = true → le a c = true) (to : ∀ a b, (le a b || le b a) = true) : ∀ l : List α, (sortB le l).Pairwise (fun a b => le a b = true)
  | [] => .nil
  | x :: l => insB_pw tr to x (sortB_pw tr to l)
def upI (ns : List Int) : List Int := sortB (fun a b => decide (a ≤ b)) ns
def downI (ns : List Int) : List Int := sortB (fun a b => decide (b ≤ a)) ns
theorem upI_uniq {ns ms : List Int} (h : ms.Perm ns) (k : ms.Pairwise (· ≤ ·)) : ms = upI ns := by
  have p1 : (upI ns).Perm ns := sortB_perm _ ns
  have s1 : (upI ns).Pairwise (fun a b => decide (a ≤ b) = true) := sortB_pw (fun a b c h1 h2 => by simp at *; omega) (fun a b => by simp; omega) ns
  refine List.Perm.eq_of_pairwise (le := (· ≤ ·)) (fun a b _ _ h1 h2 => by omega) k (s1.imp fun h => of_decide_eq_true h) (h.trans p1.symm)
theorem downI_uniq {ns ms : List Int} (h : ms.Perm ns) (k : ms.Pairwise (· ≥ ·)) : ms = downI ns := by
  have p1 : (downI ns).Perm ns := sortB_perm _ ns
  have s1 : (downI ns).Pairwise (fun a b => decide (b ≤ a) = true) := sortB_pw (fun a b c h1 h2 => by simp at *; omega) (fun a b => by simp; omega) ns
  refine List.Perm.eq_of_pairwise (le := (· ≥ ·)) (fun a b _ _ h1 h2 => by omega) k (s1.imp fun h => of_decide_eq_true h) (h.trans p1.symm)
def c_sortedI : List PyData → Option Rs := c_intsL fun ns => some (.ac ((upI ns).map PyData.int))
section
variable {K : PySem.W.Frag} {X : Cx}
theorem intsL_ok {g : List Int → Option Rs} {ds : List PyData} {r : Rs} (q : c_intsL g ds = some r) : ∃ ns, ds = [.list (ns.map PyData.int)] ∧ g ns = some r := by
  unfold c_intsL at q
  split at q
  · rename_i es
    cases z : unI es with
    | none => simp only [z] at q; cases q
    | some ns =>
      simp only [z] at q
      exact ⟨ns, by rw [unI_ok z], q⟩
  · cases q
theorem lv_ints {G H : Hp} {vs : List V} {ns : List Int} (s : Same G H) (l : LvAll K G H vs [.list (ns.map PyData.int)]) : ∃ p, vs = [.ref p] ∧ SqL K H p (ns.map V.int) := by
  obtain ⟨v, rfl, lv⟩ := lv1 l
  obtain ⟨p, ws, rfl, s1, k⟩ := lv.list s
  rw [dp_ints k] at s1
  exact ⟨p, rfl, s1⟩
theorem vc_sortedI : VC K (rSortedI K) c_sortedI := by
  intro m E G0 G e σ H vs ds rr Q R l q P
  obtain ⟨ns, rfl, q2⟩ := intsL_ok q
  clear q
  obtain ⟨p, rfl, s1⟩ := lv_ints R.gh l
  cases q2
  refine ⟨p, _, rfl, s1, fun ns' p2 h1 h2 hp => ?_⟩
  rw [upI_uniq h1 h2]
  obtain ⟨R', S', V', N'⟩ := R.newL hp (dpAll_ints (K := K) (G := G) (upI ns))
  exact P _ _ _ R' S' V' N'
theorem vc_all : VC K (rAll K) c_all := by
  intro m E G0 G e σ H vs ds rr Q R l q P
  unfold c_all at q
  split at q
  · rename_i es
    cases z : unB es with
    | none => simp only [z] at q; cases q
    | some bs =>
      simp only [z, Option.some.injEq] at q
      subst q
      obtain ⟨v, rfl, lv⟩ := lv1 l
      obtain ⟨p, ws, rfl, s1, k⟩ := lv.list R.gh
      rw [unB_ok z] at k
      rw [dp_bools k] at s1
      exact ⟨p, bs, rfl, s1, P.now R (.bl _) True.intro⟩
  · cases q
end
end DL
namespace DL
open PySem PySem.Spec PyProof.Rows L2 RT RZ
def teOf (K : PySem.W.Frag) (f : Fe) : TE := fun σ H Q => ∃ m E G0 G e r e', Rl K m E G0 G e σ H ∧ f e = some (r, e') ∧ Po K m E G0 σ G H e r e' Q
def ttOf (K : PySem.W.Frag) (f : Ft) : TT := fun σ H Q => ∃ m E G0 G e b e', Rl K m E G0 G e σ H ∧ f e = some (b, e') ∧ ∀ G' H', Rl K m E G0 G' e' σ H' → Stp σ G H e G' H' e' → Q b H'
theorem ED.can {X : Cx} {x : Expr} {f : Fe} (h : ED X x f) : PE X x (teOf X.K f) := by
  obtain ⟨t, p, k⟩ := h
  refine ⟨fun pins s σ H Q I q => p.run pins s σ H Q I ?_⟩
  obtain ⟨m, E, G0, G, e, r, e', R, q, P⟩ := q
  exact k m E G0 G e σ H r e' Q R q P
theorem TD.can {X : Cx} {x : Expr} {f : Ft} (h : TD X x f) : PT X x (ttOf X.K f) := by
  obtain ⟨t, p, k⟩ := h
  refine ⟨fun pins s σ H Q I q => p.run pins s σ H Q I ?_⟩
  obtain ⟨m, E, G0, G, e, b, e', R, q, P⟩ := q
  exact k m E G0 G e σ H b e' Q R q P
section
variable {K : PySem.W.Frag} {m : Option Addr} {E : Ef} {G0 G H : Hp} {e : Ev} {σ : St} {v : V} {d : PyData}
theorem set_get {α : Type} {l : List α} {i j : Nat} {a : α} : (l.set i a)[j]? = if i = j ∧ j < l.length then some a else l[j]? := by
  rw [List.getElem?_set]
  by_cases h : i = j
  · subst h
    by_cases k : i < l.length
    · simp [k]
    · simp [k]
  · simp [h]
theorem Rl.setI (R : Rl K m E G0 G e σ H) (i : Nat) (h : Dp K G v d) : Rl K m E G0 G (e.set i (some (.im d))) (σ.set i (some v)) H := by
  have hl := R.len
  refine ⟨R.gg, R.gh, R.eh, R.mh, R.nw, by rw [List.length_set, List.length_set]; exact hl, fun j d' q => ?_, fun j ds q => ?_, fun j k dj dk p q1 q2 q3 q4 => ?_, fun j dss q => ?_⟩
  · rw [set_get] at q ⊢
    by_cases z : i = j ∧ j < e.length
    · rw [if_pos z] at q
      cases q
      rw [if_pos ⟨z.1, by omega⟩]
      exact ⟨v, rfl, h⟩
    · rw [if_neg z] at q
      rw [if_neg (by omega)]
      exact R.im j d' q
  · rw [set_get] at q ⊢
    by_cases z : i = j ∧ j < e.length
    · rw [if_pos z] at q
      cases q
    · rw [if_neg z] at q
      rw [if_neg (by omega)]
      exact R.ac j ds q
  · rw [set_get] at q1 q2 q3 q4
    by_cases z1 : i = j ∧ j < e.length
    · rw [if_pos z1] at q1
      cases q1
    · by_cases z2 : i = k ∧ k < e.length
      · rw [if_pos z2] at q2
        cases q2
      · rw [if_neg z1] at q1
        rw [if_neg z2] at q2
        rw [if_neg (by omega)] at q3
        rw [if_neg (by omega)] at q4
        exact R.inj j k dj dk p q1 q2 q3 q4
  · rw [set_get] at q ⊢
    by_cases z : i = j ∧ j < e.length
    · rw [if_pos z] at q
      cases q
      exact True.intro
    · rw [if_neg z] at q
      rw [if_neg (by omega)]
      exact R.ot j dss q
theorem Rl.setA {ds : List PyData} (R : Rl K m E G0 G e σ H) (i : Nat) (h : Vr K E G H σ e v (.ac ds)) : Rl K m E G0 G (e.set i (some (.ac ds))) (σ.set i (some v)) H := by
  have hl := R.len
  obtain ⟨p0, ws0, rfl, h1, h2, h3, h4, h5⟩ := h
  refine ⟨R.gg, R.gh, R.eh, R.mh, R.nw, by rw [List.length_set, List.length_set]; exact hl, fun j d' q => ?_, fun j ds q => ?_, fun j k dj dk p q1 q2 q3 q4 => ?_, fun j dss q => ?_⟩
  · rw [set_get] at q ⊢
    by_cases z : i = j ∧ j < e.length
    · rw [if_pos z] at q
      cases q
    · rw [if_neg z] at q
      rw [if_neg (by omega)]
      exact R.im j d' q
  · rw [set_get] at q ⊢
    by_cases z : i = j ∧ j < e.length
    · rw [if_pos z] at q
      cases q
      rw [if_pos ⟨z.1, by omega⟩]
      exact ⟨p0, ws0, rfl, h2, h3, h4, .inl h1⟩
    · rw [if_neg z] at q
      rw [if_neg (by omega)]
      exact R.ac j ds q
  · rw [set_get] at q1 q2 q3 q4
    by_cases z1 : i = j ∧ j < e.length
    · rw [if_pos ⟨z1.1, by omega⟩] at q3
      cases q3
      by_cases z2 : i = k ∧ k < e.length
      · omega
      · rw [if_neg z2] at q2
        rw [if_neg (by omega)] at q4
        exact absurd ⟨k, dk, q2, q4⟩ h5
    · by_cases z2 : i = k ∧ k < e.length
      · rw [if_pos ⟨z2.1, by omega⟩] at q4
        cases q4
        rw [if_neg z1] at q1
        rw [if_neg (by omega)] at q3
        exact absurd ⟨j, dj, q1, q3⟩ h5
      · rw [if_neg z1] at q1
        rw [if_neg z2] at q2
        rw [if_neg (by omega)] at q3
        rw [if_neg (by omega)] at q4
        exact R.inj j k dj dk p q1 q2 q3 q4
  · rw [set_get] at q ⊢
    by_cases z : i = j ∧ j < e.length
    · rw [if_pos z] at q
      cases q
      exact True.intro
    · rw [if_neg z] at q
      rw [if_neg (by omega)]
      exact R.ot j dss q
/-- slots forgotten -/
theorem Rl.forget {e' : Ev} {σ' : St} (R : Rl K m E G0 G e σ H) (hl : e'.length = e.length) (hs : σ'.length = σ.length) (h : ∀ (i : Nat) (s : Sl), e'[i]? = some (some s) → e[i]? = some (some s) ∧ σ'[i]? = σ[i]?) : Rl K m E G0 G e' σ' H := by
  refine ⟨R.gg, R.gh, R.eh, R.mh, R.nw, by rw [hl, hs]; exact R.len, fun i d q => ?_, fun i ds q => ?_, fun i j di dj p q1 q2 q3 q4 => ?_, fun i dss q => ?_⟩
  · obtain ⟨h1, h2⟩ := h i _ q
    rw [h2]
    exact R.im i d h1
  · obtain ⟨h1, h2⟩ := h i _ q
    rw [h2]
    exact R.ac i ds h1
  · obtain ⟨h1, h2⟩ := h i _ q1
    obtain ⟨h3, h4⟩ := h j _ q2
    rw [h2] at q3
    rw [h4] at q4
    exact R.inj i j di dj p h1 h3 q3 q4
  · obtain ⟨h1, h2⟩ := h i _ q
    rw [h2]
    exact R.ot i dss h1
end
structure GD (X : Cx) (tg : Expr) (S : List Nat) (γ : PyData → Ev → Option Ev) : Prop where
  ex : ∃ g, PG X tg g ∧ ∀ (m : Option Addr) (E : Ef) (G0 G : Hp) (e : Ev) (σ : St) (H : Hp) (v : V) (d : PyData) (e' : Ev) (Q : St → Hp → Prop),
    Rl X.K m E G0 G e σ H → Dp X.K G v d → γ d e = some e' → (∀ σ', Rl X.K m E G0 G e' σ' H → (∀ i : Nat, i ∉ S → σ'[i]? = σ[i]? ∧ e'[i]? = e[i]?) → σ'.length = σ.length → e'.length = e.length → (∀ i ∈ S, isAc e'[i]? = true → isAc e[i]? = true) → Q σ' H) → g v σ H Q
def tgOf (K : PySem.W.Frag) (S : List Nat) (γ : PyData → Ev → Option Ev) : TG := fun v σ H Q => ∃ m E G0 G e d e', Rl K m E G0 G e σ H ∧ Dp K G v d ∧ γ d e = some e' ∧
  ∀ σ', Rl K m E G0 G e' σ' H → (∀ i : Nat, i ∉ S → σ'[i]? = σ[i]? ∧ e'[i]? = e[i]?) → σ'.length = σ.length → e'.length = e.length → (∀ i ∈ S, isAc e'[i]? = true → isAc e[i]? = true) → Q σ' H
theorem GD.can {X : Cx} {tg : Expr} {S : List Nat} {γ : PyData → Ev → Option Ev} (h : GD X tg S γ) : PG X tg (tgOf X.K S γ) := by
  obtain ⟨g, p, k⟩ := h
  refine ⟨fun pins s σ H v u Q I r q => p.run pins s σ H v u Q I r ?_⟩
  obtain ⟨m, E, G0, G, e, d, e', R, D, q, P⟩ := q
  exact k m E G0 G e σ H v d e' Q R D q P
def g_name (i : Nat) : PyData → Ev → Option Ev := fun d e => some (e.set i (some (.im d)))
def setAll : List Nat → List PyData → Ev → Option Ev
  | [], [], e => some e
  | i :: is, d :: ds, e => setAll is ds (e.set i (some (.im d)))
  | _, _, _ => none
def g_tup (S : List Nat) : PyData → Ev → Option Ev := fun d e => match d with
  | .tuple ds => setAll S ds e
  | _ => none
theorem isAc_set {e : Ev} {i j : Nat} {d : PyData} (h : isAc (e.set i (some (.im d)))[j]? = true) : isAc e[j]? = true := by
  rw [set_get] at h
  by_cases z : i = j ∧ j < e.length
  · rw [if_pos z] at h
    cases h
  · rw [if_neg z] at h
    exact h
/-- names in order -/
structure GsD (X : Cx) (tgs : List Expr) (S : List Nat) : Prop where
  ex : ∃ g : TGs, PGs X tgs g ∧ ∀ (m : Option Addr) (E : Ef) (G0 G : Hp) (e : Ev) (σ : St) (H : Hp) (vs : List V) (ds : List PyData) (e' : Ev) (Q : St → Hp → Prop),
    Rl X.K m E G0 G e σ H → DpAll X.K G vs ds → setAll S ds e = some e' → (∀ σ', Rl X.K m E G0 G e' σ' H → (∀ i : Nat, i ∉ S → σ'[i]? = σ[i]? ∧ e'[i]? = e[i]?) → σ'.length = σ.length → e'.length = e.length → (∀ i ∈ S, isAc e'[i]? = true → isAc e[i]? = true) → Q σ' H) → g vs σ H Q
section
variable {X : Cx} {pos : Pos}
theorem gd_name {i : Nat} {x : Str} (hN : X.N.Nodup) (hi : X.N[i]? = some x) (hx : Loc X.env.scope x) (hf : X.fn x = true ∨ X.env.scope.names.lookup x = some .local := by first | exact .inl rfl | exact .inr rfl | assumption) : GD X (.Name x pos) [i] (g_name i) := by
  refine ⟨_, pg_name hN hi hx hf, fun m E G0 G e σ H v d e' Q R D q P => ?_⟩
  cases q
  refine P _ (R.setI i D) (fun j hj => ?_) (List.length_set ..) (List.length_set ..) fun j _ h => isAc_set h
  have z : i ≠ j := fun z => hj (by rw [z]; exact List.mem_singleton.mpr rfl)
  exact ⟨List.getElem?_set_ne z, List.getElem?_set_ne z⟩
theorem gsd_nil : GsD X [] [] := by
  refine ⟨_, pgs_nil, fun m E G0 G e σ H vs ds e' Q R D q P => ?_⟩
  cases D with
  | nil =>
    cases q
    exact ⟨rfl, P σ R (fun _ _ => ⟨rfl, rfl⟩) rfl rfl fun _ h => by cases h⟩
  | cons _ _ => cases q
theorem gsd_cons {i : Nat} {x : Str} {tgs : List Expr} {S : List Nat} (hN : X.N.Nodup) (hi : X.N[i]? = some x) (hx : Loc X.env.scope x) (hr : GsD X tgs S) (hf : X.fn x = true ∨ X.env.scope.names.lookup x = some .local := by first | exact .inl rfl | exact .inr rfl | assumption)
    (hs : (assignEach (.Name x pos :: tgs) X.env).map (·.2) = assign (.Name x pos) X.env :: (assignEach tgs X.env).map (·.2) := by rfl) : GsD X (.Name x pos :: tgs) (i :: S) := by
  obtain ⟨g, p, k⟩ := hr
  refine ⟨_, pgs_cons (pg_name hN hi hx hf) p hs, fun m E G0 G e σ H vs ds e' Q R D q P => ?_⟩
  cases D with
  | nil => cases q
  | cons h t =>
    refine ⟨_, _, rfl, ?_⟩
    refine k m E G0 G _ _ H _ _ e' Q (R.setI i h) t q fun σ' R' a1 a2 a3 a4 => ?_
    refine P σ' R' (fun j hj => ?_) (a2.trans (List.length_set ..)) (a3.trans (List.length_set ..)) fun j hj h2 => ?_
    · have z : i ≠ j := fun z => hj (by rw [z]; exact List.mem_cons_self)
      obtain ⟨b1, b2⟩ := a1 j fun y => hj (List.mem_cons_of_mem _ y)
      exact ⟨b1.trans (List.getElem?_set_ne z), b2.trans (List.getElem?_set_ne z)⟩
    · by_cases y : j ∈ S
      · exact isAc_set (a4 j y h2)
      · have b2 := (a1 j y).2
        rw [b2] at h2
        exact isAc_set h2
theorem gd_tup {tgs : List Expr} {n : Nat} {S : List Nat} (hc : X.calm = true) (h : GsD X tgs S) (hn : (assignEach tgs X.env).length = S.length := by rfl) (hst : (assignEach tgs X.env).findIdx? (·.1) = none := by rfl) : GD X (.Tuple tgs n pos) S (g_tup S) := by
  obtain ⟨g, p, k⟩ := h
  refine ⟨_, pg_tup (n := S.length) hc p hn hst, fun m E G0 G e σ H v d e' Q R D q P => ?_⟩
  unfold g_tup at q
  split at q
  · rename_i ds
    cases D with
    | tup hT hA =>
      have hl : ∀ {S : List Nat} {ds : List PyData} {e e' : Ev}, setAll S ds e = some e' → S.length = ds.length := by
        intro S
        induction S with
        | nil =>
          intro ds e e' h
          cases ds with
          | nil => rfl
          | cons _ _ => cases h
        | cons i S ih =>
          intro ds e e' h
          cases ds with
          | nil => cases h
          | cons d ds => exact congrArg (· + 1) (ih h)
      exact ⟨_, _, rfl, seqT R.gh hT, by rw [dpAll_len hA, hl q], k m E G0 G e σ H _ _ e' Q R hA q P⟩
  · cases q
end
def Yd (K : PySem.W.Frag) (G H : Hp) (x : V) (H2 : Hp) (d : PyData) : Prop :=
  (H2 = H ∧ Dp K G x d) ∨ ∃ T ws es, x = .ref T ∧ H T = none ∧ H2 = upd H T (.tup ws) ∧ d = .tuple es ∧ DpAll K G ws es
def WalkD (K : PySem.W.Frag) (G0 : Hp) (J : It) (ds : List PyData) : Prop :=
  ∀ G H, Same G0 G → Same G H → (∀ i d, ds[i]? = some d → J.go i H ∧ ∀ x H2, J.yld i H x H2 → Yd K G H x H2 d) ∧ J.stop ds.length H
abbrev Fi := Ev → Option (List PyData × Ev)
structure ID (X : Cx) (tg it : Expr) (f : Fi) : Prop where
  ex : ∃ wi, PI X tg it wi ∧ ∀ (m : Option Addr) (E : Ef) (G0 G : Hp) (e : Ev) (σ : St) (H : Hp) (ds : List PyData) (e' : Ev) (Q : It → Hp → Prop),
    Rl X.K m E G0 G e σ H → f e = some (ds, e') → (∀ J G' H', Rl X.K m E G0 G' e' σ H' → Stp σ G H e G' H' e' → WalkD X.K G' J ds → Q J H') → wi σ H Q
theorem pi_or {X : Cx} {tg it : Expr} {w1 w2 : TI} (h1 : PI X tg it w1) (h2 : PI X tg it w2) : PI X tg it (fun σ H R => w1 σ H R ∨ w2 σ H R) :=
  ⟨fun pins s σ H R I h => h.elim (h1.run pins s σ H R I) (h2.run pins s σ H R I)⟩
section
variable {K : PySem.W.Frag} {G0 : Hp} {a b : Addr} {xs ys : List V} {ds es : List PyData}
theorem walk_list (h : SqL K G0 a xs) (q : DpAll K G0 xs ds) : WalkD K G0 (Itl K a) ds := by
  intro G H s1 s2
  have hq : SqL K H a xs := (s1.trans s2).seq h
  refine ⟨fun i d e => ?_, xs, hq, by rw [dpAll_len q]; exact Nat.le_refl _⟩
  obtain ⟨v, e1, e2⟩ := dpAll_get q e
  refine ⟨⟨xs, v, hq, e1⟩, fun x H2 y => .inl ⟨y.1, ?_⟩⟩
  have z := y.2 xs hq
  rw [e1] at z
  cases z
  exact dp_same s1 e2
theorem walk_tup (h : SqT K G0 a xs) (q : DpAll K G0 xs ds) : WalkD K G0 (Itt K a) ds := by
  intro G H s1 s2
  have hq : SqT K H a xs := seqT (s1.trans s2) h
  refine ⟨fun i d e => ?_, xs, hq, by rw [dpAll_len q]; exact Nat.le_refl _⟩
  obtain ⟨v, e1, e2⟩ := dpAll_get q e
  refine ⟨⟨xs, v, hq, e1⟩, fun x H2 y => .inl ⟨y.1, ?_⟩⟩
  have z := y.2 xs hq
  rw [e1] at z
  cases z
  exact dp_same s1 e2
def rngD (lo : Int) (n : Nat) (c : Int) : List PyData := (List.range n).map fun (i : Nat) => PyData.int (lo + (i : Int) * c)
theorem rng_at {lo : Int} {n : Nat} {c : Int} {i : Nat} {d : PyData} (e : (rngD lo n c)[i]? = some d) : i < n ∧ d = .int (lo + (i : Int) * c) := by
  unfold rngD at e
  rw [List.getElem?_map] at e
  cases z : (List.range n)[i]? with
  | none => rw [z] at e; cases e
  | some j =>
    rw [z] at e
    obtain ⟨h1, h2⟩ := List.getElem?_eq_some_iff.mp z
    rw [List.length_range] at h1
    rw [List.getElem_range] at h2
    subst h2
    cases e
    exact ⟨h1, rfl⟩
theorem walk_rng {lo : Int} {n : Nat} : WalkD K G0 (Itr lo n) (rngD lo n 1) := by
  intro G H s1 s2
  refine ⟨fun i d e => ?_, by unfold rngD; rw [List.length_map, List.length_range]; exact Nat.le_refl n⟩
  obtain ⟨h1, rfl⟩ := rng_at e
  refine ⟨h1, fun x H2 y => .inl ⟨y.1, ?_⟩⟩
  rw [y.2, Int.mul_one]
  exact .int _
end
/-- a list or a tuple that stays -/
def i_seq (f : Fe) : Fi := fun e => match f e with
  | some (r, e1) => (match frzR r with
    | .im (.list ds) => some (ds, e1)
    | .im (.tuple ds) => some (ds, e1)
    | _ => none)
  | none => none
theorem i_seq_ok {f : Fe} {e e' : Ev} {ds : List PyData} (q : i_seq f e = some (ds, e')) : ∃ r, f e = some (r, e') ∧ (frzR r = .im (.list ds) ∨ frzR r = .im (.tuple ds)) := by
  unfold i_seq at q
  split at q
  · rename_i r e1 h
    split at q
    · rename_i es h2
      cases q
      exact ⟨r, h, .inl h2⟩
    · rename_i es h2
      cases q
      exact ⟨r, h, .inr h2⟩
    · cases q
  · cases q
section
variable {X : Cx} {tg a b c : Expr} {fa fb fc : Fe} {pos p : Pos}
theorem id_seq (ha : ED X a fa) : ID X tg a (i_seq fa) := by
  obtain ⟨t, pa, k⟩ := ha
  refine ⟨_, pi_or (pi_list pa) (pi_tup pa), fun m E G0 G e σ H ds e' Q R q P => ?_⟩
  obtain ⟨r, q1, q2⟩ := i_seq_ok q
  rcases q2 with q2 | q2
  · refine .inl (k m E G0 G e σ H r e' _ R q1 fun v G1 H1 R1 S1 V1 N1 => ?_)
    obtain ⟨G1', R1', S1', s1, V1'⟩ := R1.freeze S1 V1 N1
    rw [q2] at V1'
    have V2 : Dp X.K G1' v (.list ds) := V1'
    cases V2 with
    | lst h z => exact ⟨_, rfl, ⟨_, R1'.gh.seq h⟩, P _ _ _ R1' S1' (walk_list h z)⟩
  · refine .inr (k m E G0 G e σ H r e' _ R q1 fun v G1 H1 R1 S1 V1 N1 => ?_)
    obtain ⟨G1', R1', S1', s1, V1'⟩ := R1.freeze S1 V1 N1
    rw [q2] at V1'
    have V2 : Dp X.K G1' v (.tuple ds) := V1'
    cases V2 with
    | tup h z => exact ⟨_, rfl, ⟨_, seqT R1'.gh h⟩, P _ _ _ R1' S1' (walk_tup h z)⟩
/-- range -/
def rgC (i : Int) : Bool := decide (-4611686018427387904 ≤ i ∧ i < 4611686018427387904)
theorem rgC_ok {i : Int} (h : rgC i = true) : -(2 ^ 62) ≤ i ∧ i < 2 ^ 62 := by
  have h := of_decide_eq_true h
  have e : (2 : Int) ^ 62 = 4611686018427387904 := by decide
  rw [e]
  exact h
def i_rng1 (fa : Fe) : Fi := fun e => match fa e with
  | some (.im (.int j), e1) => if rgC j = true then some (rngD 0 j.toNat 1, e1) else none
  | _ => none
def i_rng2 (fa fb : Fe) : Fi := fun e => match fa e with
  | some (.im (.int i), e1) => (match fb e1 with
    | some (.im (.int j), e2) => if (rgC i && rgC j) = true then some (rngD i (j - i).toNat 1, e2) else none
    | _ => none)
  | _ => none
theorem rng1_read {t : TE} (k : ∀ (m : Option Addr) (E : Ef) (G0 G : Hp) (e : Ev) (σ : St) (H : Hp) (r : Rs) (e' : Ev) (Q : VK), Rl X.K m E G0 G e σ H → fa e = some (r, e') → Po X.K m E G0 σ G H e r e' Q → t σ H Q)
    (m : Option Addr) (E : Ef) (G0 G : Hp) (e : Ev) (σ : St) (H : Hp) (ds : List PyData) (e' : Ev) (Q : It → Hp → Prop) (R : Rl X.K m E G0 G e σ H) (q : i_rng1 fa e = some (ds, e')) (P : ∀ J G' H', Rl X.K m E G0 G' e' σ H' → Stp σ G H e G' H' e' → WalkD X.K G' J ds → Q J H') : iRng1 (tCons t tNil) σ H Q := by
  unfold i_rng1 at q
  split at q
  · rename_i j e1 h1
    by_cases z : rgC j = true
    · rw [if_pos z] at q
      simp only [Option.some.injEq, Prod.mk.injEq] at q
      obtain ⟨rfl, rfl⟩ := q
      refine k m E G0 G e σ H _ e1 _ R h1 fun v G1 H1 R1 S1 V1 _ => ?_
      cases V1
      obtain ⟨z1, z2⟩ := rgC_ok z
      exact ⟨j, rfl, z1, z2, P _ _ _ R1 S1 walk_rng⟩
    · rw [if_neg z] at q
      cases q
  · cases q
theorem id_rng1 (ha : ED X a fa) (hm : X.mg "range" = none) (hg : Gl X "range" := by rfl) (hs : starEach [a] X.env = [(false, eval a X.env)] := by rfl) : ID X tg (.Call (.Name "range" p) [a] [] pos) (i_rng1 fa) := by
  obtain ⟨t, pa, k⟩ := ha
  exact ⟨_, pi_range1 hg hm (pa_cons pa pa_nil hs) hs, rng1_read k⟩
theorem id_rng2 (ha : ED X a fa) (hb : ED X b fb) (hm : X.mg "range" = none) (hg : Gl X "range" := by rfl) (hs : starEach [a, b] X.env = [(false, eval a X.env), (false, eval b X.env)] := by rfl) (hs2 : starEach [b] X.env = [(false, eval b X.env)] := by rfl) : ID X tg (.Call (.Name "range" p) [a, b] [] pos) (i_rng2 fa fb) := by
  obtain ⟨t, pa, k⟩ := ha
  obtain ⟨t2, pb, k2⟩ := hb
  refine ⟨_, pi_range2 hg hm (pa_cons pa (pa_cons pb pa_nil hs2) (by rw [hs, hs2])) hs hs2, fun m E G0 G e σ H ds e' Q R q P => ?_⟩
  unfold i_rng2 at q
  split at q
  · rename_i i e1 h1
    split at q
    · rename_i j e2 h2
      by_cases z : (rgC i && rgC j) = true
      · rw [if_pos z] at q
        simp only [Option.some.injEq, Prod.mk.injEq] at q
        obtain ⟨rfl, rfl⟩ := q
        refine k m E G0 G e σ H _ e1 _ R h1 fun v G1 H1 R1 S1 V1 _ => ?_
        refine k2 m E G0 G1 e1 σ H1 _ e2 _ R1 h2 fun v2 G2 H2 R2 S2 V2 _ => ?_
        cases V1
        cases V2
        obtain ⟨z1, z2⟩ := Bool.and_eq_true_iff.mp z
        have z1 := rgC_ok z1
        have z2 := rgC_ok z2
        exact ⟨i, j, rfl, ⟨z1.1, z1.2, z2.1, z2.2⟩, P _ _ _ R2 (S1.trans S2) walk_rng⟩
      · rw [if_neg z] at q
        cases q
    · cases q
  · cases q
end
end DL
namespace DL
open PySem PySem.Spec PyProof.Rows L2
def wipeE (e : Ev) : List Nat → Ev
  | [] => e
  | v :: vs => (wipeE e vs).set v none
def restE (e e' : Ev) : List Nat → Ev
  | [] => e'
  | v :: vs => (restE e e' vs).set v (match e[v]? with
    | some s => s
    | none => none)
def noAc (e : Ev) (vs : List Nat) : Bool := vs.all fun i => !isAc e[i]?
def lcGo (γ : PyData → Ev → Option Ev) (tst : Ft) (fe : Fe) (vs : List Nat) : List PyData → Ev → List PyData → Option (List PyData × Ev)
  | [], e, acc => some (acc, e)
  | d :: ds, e, acc => match γ d e with
    | some e1 => (match tst e1 with
      | some (true, e2) => (match fe e2 with
        | some (r, e3) => (match imR (frzR r) with
          | some y => if okLen (acc.length + 1) = true then lcGo γ tst fe vs ds (wipeE e3 vs) (acc ++ [y]) else none
          | none => none)
        | none => none)
      | some (false, e2) => lcGo γ tst fe vs ds (wipeE e2 vs) acc
      | none => none)
    | none => none
def x_lc (fi : Fi) (γ : PyData → Ev → Option Ev) (tst : Ft) (fe : Fe) (vs : List Nat) : Fe := fun e => match fi e with
  | some (ds, e1) => if noAc e1 vs = true then (match lcGo γ tst fe vs ds (wipeE e1 vs) [] with
    | some (acc, e2) => some (.ac acc, restE e1 e2 vs)
    | none => none) else none
  | none => none
section
variable {e e' : Ev} {vs : List Nat} {σ σ' : St} {i : Nat}
theorem wipeE_len : ∀ vs : List Nat, (wipeE e vs).length = e.length
  | [] => rfl
  | v :: vs => (List.length_set ..).trans (wipeE_len vs)
theorem wipeE_out : ∀ {vs : List Nat}, i ∉ vs → (wipeE e vs)[i]? = e[i]?
  | [], _ => rfl
  | v :: vs, h => by
    have h1 : v ≠ i := fun z => h (by rw [z]; exact List.mem_cons_self)
    unfold wipeE
    rw [List.getElem?_set_ne h1]
    exact wipeE_out fun z => h (List.mem_cons_of_mem _ z)
theorem wipeE_in : ∀ {vs : List Nat} {s : Sl}, (wipeE e vs)[i]? = some (some s) → i ∉ vs
  | [], _, _ => by simp
  | v :: vs, s, h => by
    unfold wipeE at h
    rw [set_get] at h
    by_cases z : v = i ∧ i < (wipeE e vs).length
    · rw [if_pos z] at h
      cases h
    · rw [if_neg z] at h
      have hl := (List.getElem?_eq_some_iff.mp h).1
      intro q
      rcases List.mem_cons.mp q with q | q
      · exact z ⟨q.symm, hl⟩
      · exact wipeE_in h q
theorem wipe_in : ∀ {vs : List Nat}, i ∈ vs → (wipe σ vs)[i]? = if i < σ.length then some none else none
  | [], h => by cases h
  | v :: vs, h => by
    unfold wipe
    rw [set_get, wipe_length]
    by_cases z : v = i ∧ i < σ.length
    · rw [if_pos z, if_pos z.2]
    · rw [if_neg z]
      by_cases y : i ∈ vs
      · exact wipe_in y
      · have e1 : i = v := by
          rcases List.mem_cons.mp h with q | q
          · exact q
          · exact absurd q y
        have hl : ¬ i < σ.length := fun q => z ⟨e1.symm, q⟩
        rw [if_neg hl, wipe_out y]
        exact List.getElem?_eq_none (by omega)
theorem wipe_same (h : ∀ i : Nat, i ∉ vs → σ'[i]? = σ[i]?) (hl : σ'.length = σ.length) : wipe σ' vs = wipe σ vs := by
  apply List.ext_getElem?
  intro i
  by_cases z : i ∈ vs
  · rw [wipe_in z, wipe_in z, hl]
  · rw [wipe_out z, wipe_out z]
    exact h i z
theorem wipe_wipe : wipe (wipe σ vs) vs = wipe σ vs := wipe_same (fun i z => wipe_out z) (wipe_length _ _)
theorem restE_len : ∀ vs : List Nat, (restE e e' vs).length = e'.length
  | [] => rfl
  | v :: vs => (List.length_set ..).trans (restE_len vs)
theorem restE_out : ∀ {vs : List Nat}, i ∉ vs → (restE e e' vs)[i]? = e'[i]?
  | [], _ => rfl
  | v :: vs, h => by
    have h1 : v ≠ i := fun z => h (by rw [z]; exact List.mem_cons_self)
    unfold restE
    rw [List.getElem?_set_ne h1]
    exact restE_out fun z => h (List.mem_cons_of_mem _ z)
theorem restE_in (hl : e'.length = e.length) : ∀ {vs : List Nat}, i ∈ vs → (restE e e' vs)[i]? = e[i]?
  | [], h => by cases h
  | v :: vs, h => by
    unfold restE
    rw [set_get, restE_len]
    by_cases z : v = i ∧ i < e'.length
    · rw [if_pos z]
      have h2 : i < e.length := by omega
      rw [z.1, List.getElem?_eq_getElem h2]
    · rw [if_neg z]
      by_cases y : i ∈ vs
      · exact restE_in hl y
      · have e1 : i = v := by
          rcases List.mem_cons.mp h with q | q
          · exact q
          · exact absurd q y
        have h2 : ¬ i < e'.length := fun q => z ⟨e1.symm, q⟩
        rw [restE_out y, List.getElem?_eq_none (by omega), List.getElem?_eq_none (by omega)]
theorem noAc_at (h : noAc e vs = true) (hi : i ∈ vs) : isAc e[i]? = false := by
  have q := List.all_eq_true.mp h i hi
  simpa using q
end
section
variable {K : PySem.W.Frag} {m : Option Addr} {E : Ef} {G0 G H : Hp} {e : Ev} {σ : St} {vs : List Nat} {D : Addr} {ws : List V}
theorem Rl.wipe (R : Rl K m E G0 G e σ H) (vs : List Nat) : Rl K m E G0 G (wipeE e vs) (L2.wipe σ vs) H :=
  R.forget (wipeE_len _) (wipe_length _ _) fun i s h => by
    have z := wipeE_in h
    rw [wipeE_out z] at h
    exact ⟨h, wipe_out z⟩
theorem own_wipe (h : noAc e vs = true) {a : Addr} : Own (L2.wipe σ vs) (wipeE e vs) a ↔ Own σ e a := by
  constructor
  · rintro ⟨i, ds, h1, h2⟩
    have z := wipeE_in h1
    rw [wipeE_out z] at h1
    rw [wipe_out z] at h2
    exact ⟨i, ds, h1, h2⟩
  · rintro ⟨i, ds, h1, h2⟩
    have z : i ∉ vs := fun z => by
      have q := noAc_at h z
      rw [h1] at q
      cases q
    exact ⟨i, ds, by rw [wipeE_out z]; exact h1, by rw [wipe_out z]; exact h2⟩
/-- a list that is nobody's is written -/
theorem Rl.updD (R : Rl K m E G0 G e σ H) (hG : G D = none) (hE : E D = none) (hO : ¬ Own σ e D) : Rl K m E G0 G e σ (upd H D (.lst ws)) := by
  refine ⟨R.gg, fun b o q => ?_, fun b o q1 q2 => ?_, fun b q => ⟨(R.mh b q).1, ?_⟩, R.nw, R.len, R.im, fun i ds q => ?_, R.inj, R.ot⟩
  · rw [upd_ne (ne_of_none q hG)]
    exact R.gh b o q
  · rw [upd_ne (ne_of_none q1 hE)]
    exact R.eh b o q1 q2
  · have z : b ≠ D := fun z => (R.mh b q).1 (by rw [z]; exact hE)
    rw [upd_ne z]
    exact (R.mh b q).2
  · obtain ⟨p, ws', h1, h2, h3, h4, h5⟩ := R.ac i ds q
    have z : p ≠ D := fun z => hO ⟨i, ds, q, by rw [← z]; exact h1⟩
    exact ⟨p, ws', h1, h2, by rw [upd_ne z]; exact h3, h4, h5⟩
end
section
variable {X : Cx}
/-- the loop -/
theorem lc_ok {m : Option Addr} {E : Ef} {G0 G1 H1 : Hp} {e1 : Ev} {σ : St} {ds : List PyData} {J : It} {S vs : List Nat} {γ : PyData → Ev → Option Ev} {tst : Ft} {fe : Fe} {acc : List PyData} {eF : Ev} {K : PySem.W.Frag} {Q : VK} {D : Addr}
    (R1 : Rl K m E G0 G1 e1 σ H1) (WD : WalkD K G1 J ds) (hS : ∀ i ∈ S, i ∈ vs) (hn : noAc e1 vs = true) (q : lcGo γ tst fe vs ds (wipeE e1 vs) [] = some (acc, eF)) (hD : H1 D = none)
    (P : ∀ G H, Rl K m E G0 G (restE e1 eF vs) σ H → Stp σ G1 H1 e1 G H (restE e1 eF vs) → Vr K E G H σ (restE e1 eF vs) (.ref D) (.ac acc) → Q (.ref D) H) :
    ∃ W : Nat → Nat → Hp → Prop, (∃ mm, W 0 mm (upd H1 D (.lst []))) ∧ ∀ i mm H, W i mm H →
      (J.stop i H ∧ Q (.ref D) H) ∨ (J.go i H ∧ ∃ Nx : Hp → Prop, (∀ H', Nx H' → ∃ m', m' < mm ∧ W (i + 1) m' H') ∧ ∀ x H', J.yld i H x H' → tgOf K S γ x (L2.wipe σ vs) H' fun σ2 H2 => L2.wipe σ2 vs = L2.wipe σ vs ∧ ttOf K tst σ2 H2 fun b H3 =>
        if b = true then teOf K fe σ2 H3 fun y H4 => ∃ acc, H4 D = some (.lst acc) ∧ acc.length < sizeLine ∧ Nx (upd H4 D (.lst (acc ++ [y]))) else Nx H3) := by
  obtain ⟨gD, eD, oD, mD⟩ := R1.fresh hD
  let W : Nat → Nat → Hp → Prop := fun i mm H => ∃ G e ac ws, mm = ds.length - i ∧ i ≤ ds.length ∧ Rl K m E G0 G e (L2.wipe σ vs) H ∧ Stp (L2.wipe σ vs) G1 H1 (wipeE e1 vs) G H e ∧ G D = none ∧ H D = some (.lst ws) ∧ DpAll K G ws ac ∧ lcGo γ tst fe vs (ds.drop i) e ac = some (acc, eF)
  refine ⟨W, ⟨ds.length, G1, wipeE e1 vs, [], [], by simp, Nat.zero_le _, ?_, ?_, gD, upd_same, .nil, by simpa using q⟩, ?_⟩
  · exact ((R1.wipe vs).newL hD .nil).1
  · exact ((R1.wipe vs).newL hD (ds := []) .nil).2.1
  rintro i mm H ⟨G, e, ac, ws, rfl, hi, R, S1, hG, hH, dv, lc⟩
  -- what is nobody's
  have noD : ¬ Own (L2.wipe σ vs) e D := fun z => oD ((own_wipe hn).mp ((own_kd S1.kd).mp z))
  obtain ⟨wk, stop⟩ := WD G H S1.gg R.gh
  by_cases hlt : i < ds.length
  · have hd : ds.drop i = ds[i] :: ds.drop (i + 1) := by rw [List.drop_eq_getElem_cons hlt]
    have hget : ds[i]? = some ds[i] := List.getElem?_eq_getElem hlt
    rw [hd] at lc
    generalize ds[i] = d at lc hget hd
    obtain ⟨go, yl⟩ := wk i d hget
    refine .inr ⟨go, W (i + 1) (ds.length - (i + 1)), fun H' h => ⟨_, by omega, h⟩, fun x H' y => ?_⟩
    -- what is yielded
    have hY : ∃ G', Rl K m E G0 G' e (L2.wipe σ vs) H' ∧ Stp (L2.wipe σ vs) G H e G' H' e ∧ Dp K G' x d := by
      rcases yl x H' y with ⟨rfl, h⟩ | ⟨T, us, es, rfl, nT, rfl, rfl, h⟩
      · exact ⟨G, R, Stp.refl, h⟩
      · obtain ⟨R', S', D'⟩ := R.newT nT h
        exact ⟨_, R', S', D'⟩
    obtain ⟨G', R', S', dx⟩ := hY
    have gD' : G' D = none := S'.nw D hG (by rw [hH]; simp)
    have hD' : H' D = some (.lst ws) := S'.hh D _ hH noD
    -- the turn's own steps
    simp only [lcGo] at lc
    cases h1 : γ d e with
    | none => simp only [h1] at lc; cases lc
    | some e2 =>
      simp only [h1] at lc
      refine ⟨m, E, G0, G', e, d, e2, R', dx, h1, fun σ' R2 out sl el ac1 => ?_⟩
      have wsame : L2.wipe σ' vs = L2.wipe σ vs := by
        have z := wipe_same (vs := vs) (σ' := σ') (σ := L2.wipe σ vs) (fun i hi => (out i fun z => hi (hS i z)).1) sl
        rw [wipe_wipe] at z
        exact z
      refine ⟨wsame, ?_⟩
      have vsE : ∀ i ∈ vs, isAc e[i]? = false := fun i hi => by
        rw [S1.kd i]
        cases z : (wipeE e1 vs)[i]? with
        | none => rfl
        | some s =>
          cases s with
          | none => rfl
          | some s => exact absurd hi (wipeE_in z)
      have own2 : ∀ a, Own σ' e2 a → Own (L2.wipe σ vs) e a := fun a ⟨j, dj, z1, z2⟩ => by
        by_cases hj : j ∈ S
        · have q1 := ac1 j hj (by rw [z1]; rfl)
          rw [vsE j (hS j hj)] at q1
          cases q1
        · obtain ⟨o1, o2⟩ := out j hj
          exact ⟨j, dj, by rw [← o2]; exact z1, by rw [← o1]; exact z2⟩
      -- closing a turn: from the state behind the element
      have fin : ∀ {G5 H4 : Hp} {e3 : Ev} {ws2 : List V} {ac2 : List PyData}, Rl K m E G0 G5 e3 σ' H4 → Stp σ' G' H' e2 G5 H4 e3 → DpAll K G5 ws2 ac2 → lcGo γ tst fe vs (ds.drop (i + 1)) (wipeE e3 vs) ac2 = some (acc, eF) →
          W (i + 1) (ds.length - (i + 1)) (upd H4 D (.lst ws2)) := by
        intro G5 H4 e3 ws2 ac2 R5 S5 d5 lc5
        have g5 : G5 D = none := S5.nw D gD' (by rw [hD']; simp)
        have o5 : ¬ Own σ' e3 D := fun z => noD (own2 D ((own_kd S5.kd).mp z))
        have R6 := (R5.updD (ws := ws2) g5 eD o5).wipe vs
        rw [wsame] at R6
        refine ⟨G5, wipeE e3 vs, ac2, ws2, rfl, hlt, R6, ⟨S1.gg.trans (S'.gg.trans S5.gg), fun a h1 h2 => ?_, fun a o h1 h2 => ?_, fun j => ?_, fun a h1 => ?_⟩, g5, upd_same, d5, lc5⟩
        · exact S5.nw a (S'.nw a (S1.nw a h1 h2) (S1.th a h2)) (S'.th a (S1.th a h2))
        · have z : a ≠ D := ne_of_none h1 hD
          rw [upd_ne z]
          have n1 : ¬ Own (L2.wipe σ vs) e a := fun y => h2 ((own_kd S1.kd).mp y)
          exact S5.hh a o (S'.hh a o (S1.hh a o h1 h2) n1) fun y => n1 (own2 a y)
        · by_cases hj : j ∈ vs
          · have b1 : ∀ {e : Ev}, isAc (wipeE e vs)[j]? = false := fun {e} => by
              cases z : (wipeE e vs)[j]? with
              | none => rfl
              | some s =>
                cases s with
                | none => rfl
                | some s => exact absurd hj (wipeE_in z)
            rw [b1, b1]
          · rw [wipeE_out hj, S5.kd j, (out j fun z => hj (hS j z)).2]
            exact S1.kd j
        · by_cases z : a = D
          · rw [z, upd_same]
            simp
          · rw [upd_ne z]
            exact S5.th a (S'.th a (S1.th a h1))
      cases h2 : tst e2 with
      | none => simp only [h2] at lc; cases lc
      | some z =>
        obtain ⟨b, e3⟩ := z
        cases b with
        | false =>
          simp only [h2] at lc
          refine ⟨m, E, G0, G', e2, false, e3, R2, h2, fun G3 H3 R3 S3 => ?_⟩
          show (if false = true then _ else _)
          rw [if_neg Bool.false_ne_true]
          have w3 : H3 D = some (.lst ws) := S3.hh D _ hD' fun z => noD (own2 D z)
          have eu : upd H3 D (.lst ws) = H3 := by
            funext b
            by_cases z : b = D
            · rw [z, upd_same, w3]
            · rw [upd_ne z]
          have z := fin R3 S3 (dpAll_same (S'.gg.trans S3.gg) dv) lc
          rw [eu] at z
          exact z
        | true =>
          simp only [h2] at lc
          refine ⟨m, E, G0, G', e2, true, e3, R2, h2, fun G3 H3 R3 S3 => ?_⟩
          show (if true = true then _ else _)
          rw [if_pos rfl]
          cases h3 : fe e3 with
          | none => simp only [h3] at lc; cases lc
          | some z =>
            obtain ⟨r, e4⟩ := z
            simp only [h3] at lc
            refine ⟨m, E, G0, G3, e3, r, e4, R3, h3, fun v G4 H4 R4 S4 V4 N4 => ?_⟩
            obtain ⟨G5, R5, S5, s5, V5⟩ := R4.freeze (S3.trans S4) V4 (nw_back S3 v N4)
            cases h4 : imR (frzR r) with
            | none => simp only [h4] at lc; cases lc
            | some yd =>
              simp only [h4] at lc
              have er : frzR r = .im yd := by
                cases r with
                | im d =>
                  cases h4
                  rfl
                | ac ds =>
                  cases h4
                  rfl
                | br i => cases h4
              rw [er] at V5
              by_cases h5 : okLen (ac.length + 1) = true
              · rw [if_pos h5] at lc
                have w4 : H4 D = some (.lst ws) := S5.hh D _ hD' fun z => noD (own2 D z)
                have hl := okLen_ok h5
                refine ⟨ws, w4, by rw [dpAll_len dv]; omega, ?_⟩
                exact fin R5 S5 (dpAll_app (dpAll_same (S'.gg.trans S5.gg) dv) (.cons V5 .nil)) lc
              · rw [if_neg h5] at lc
                cases lc
  · have hi2 : i = ds.length := by omega
    subst hi2
    rw [List.drop_length] at lc
    simp only [lcGo, Option.some.injEq, Prod.mk.injEq] at lc
    obtain ⟨rfl, rfl⟩ := lc
    have hl : e.length = e1.length := by
      have z1 := R.len
      have z2 := R1.len
      rw [wipe_length] at z1
      omega
    have vsE : ∀ i ∈ vs, isAc e[i]? = false := fun i hi => by
      rw [S1.kd i]
      cases z : (wipeE e1 vs)[i]? with
      | none => rfl
      | some s =>
        cases s with
        | none => rfl
        | some s => exact absurd hi (wipeE_in z)
    have kd : ∀ j : Nat, isAc (restE e1 e vs)[j]? = isAc e1[j]? := fun j => by
      by_cases hj : j ∈ vs
      · rw [restE_in hl hj]
      · rw [restE_out hj, S1.kd j, wipeE_out hj]
    have get : ∀ {j : Nat} {s : Sl}, (restE e1 e vs)[j]? = some (some s) → (j ∈ vs ∧ e1[j]? = some (some s)) ∨ (j ∉ vs ∧ e[j]? = some (some s)) := fun {j s} z => by
      by_cases hj : j ∈ vs
      · rw [restE_in hl hj] at z
        exact .inl ⟨hj, z⟩
      · rw [restE_out hj] at z
        exact .inr ⟨hj, z⟩
    have ac1 : ∀ {j : Nat} {dj : List PyData}, (restE e1 e vs)[j]? = some (some (.ac dj)) → j ∉ vs ∧ e[j]? = some (some (.ac dj)) := fun {j dj} z => by
      rcases get z with ⟨h1, h2⟩ | z
      · have q1 := noAc_at hn h1
        rw [h2] at q1
        cases q1
      · exact z
    have RF : Rl K m E G0 G (restE e1 e vs) σ H := by
      refine ⟨R.gg, R.gh, R.eh, R.mh, R.nw, by rw [restE_len, hl]; exact R1.len, fun j d z => ?_, fun j dj z => ?_, fun j k dj dk p z1 z2 z3 z4 => ?_, fun j dss z => ?_⟩
      · rcases get z with ⟨h1, h2⟩ | ⟨h1, h2⟩
        · obtain ⟨v, a1, a2⟩ := R1.im j d h2
          exact ⟨v, a1, dp_same S1.gg a2⟩
        · obtain ⟨v, a1, a2⟩ := R.im j d h2
          rw [wipe_out h1] at a1
          exact ⟨v, a1, a2⟩
      · obtain ⟨h1, h2⟩ := ac1 z
        obtain ⟨p, w, a1, a2⟩ := R.ac j dj h2
        rw [wipe_out h1] at a1
        exact ⟨p, w, a1, a2⟩
      · obtain ⟨h1, h2⟩ := ac1 z1
        obtain ⟨h3, h4⟩ := ac1 z2
        exact R.inj j k dj dk p h2 h4 (by rw [wipe_out h1]; exact z3) (by rw [wipe_out h3]; exact z4)
      · rcases get z with ⟨h1, h2⟩ | ⟨h1, h2⟩
        · exact (R1.ot j dss h2).mono S1.gg
        · have a1 := R.ot j dss h2
          rw [wipe_out h1] at a1
          exact a1
    refine .inl ⟨stop, P G H RF ⟨S1.gg, S1.nw, fun a o h1 h2 => S1.hh a o h1 fun z => h2 ((own_wipe hn).mp z), kd, S1.th⟩ ⟨D, ws, rfl, eD, hG, hH, dv, fun z => oD ((own_kd kd).mp z)⟩⟩
structure PTD (X : Cx) (ifs : List Expr) (f : Ft) : Prop where
  ex : PTs X ifs (ttOf X.K f)
def t_yes : Ft := fun e => some (true, e)
theorem ptd_nil : PTD X [] t_yes := ⟨⟨fun pins s σ H Q I h => by
  obtain ⟨m, E, G0, G, e, b, e', R, q, P⟩ := h
  cases q
  exact pts_nil.run pins s σ H Q I (P G H R Stp.refl)⟩⟩
theorem ptd_one {c : Expr} {f : Ft} (h : TD X c f) : PTD X [c] f := ⟨pts_one h.can⟩
variable {elt tg it : Expr} {ifs : List Expr} {scope : Scope} {own : List (Str × Nat)} {pos spos : Pos} {fi : Fi} {S : List Nat} {γ : PyData → Ev → Option Ev} {tst : Ft} {fe : Fe}
theorem x_lc_ok {wi : TI} (hS : ∀ i ∈ S, i ∈ own.map (·.2)) (k : ∀ (m : Option Addr) (E : Ef) (G0 G : Hp) (e : Ev) (σ : St) (H : Hp) (ds : List PyData) (e' : Ev) (Q : It → Hp → Prop),
      Rl X.K m E G0 G e σ H → fi e = some (ds, e') → (∀ J G' H', Rl X.K m E G0 G' e' σ H' → Stp σ G H e G' H' e' → WalkD X.K G' J ds → Q J H') → wi σ H Q)
    (m : Option Addr) (E : Ef) (G0 G : Hp) (e : Ev) (σ : St) (H : Hp) (r : Rs) (e' : Ev) (Q : VK) (R : Rl X.K m E G0 G e σ H) (q : x_lc fi γ tst fe (own.map (·.2)) e = some (r, e')) (P : Po X.K m E G0 σ G H e r e' Q) :
    tLc wi (tgOf X.K S γ) (ttOf X.K tst) (teOf X.K fe) (own.map (·.2)) σ H Q := by
  unfold x_lc at q
  cases h1 : fi e with
  | none => simp only [h1] at q; cases q
  | some z =>
    obtain ⟨ds, e1⟩ := z
    simp only [h1] at q
    by_cases h2 : noAc e1 (own.map (·.2)) = true
    · rw [if_pos h2] at q
      cases h3 : lcGo γ tst fe (own.map (·.2)) ds (wipeE e1 (own.map (·.2))) [] with
      | none => simp only [h3] at q; cases q
      | some z =>
        obtain ⟨acc, e2⟩ := z
        simp only [h3, Option.some.injEq, Prod.mk.injEq] at q
        obtain ⟨rfl, rfl⟩ := q
        refine k m E G0 G e σ H ds e1 _ R h1 fun J G1 H1 R1 S1 W1 D hD => ?_
        exact lc_ok R1 W1 hS h2 h3 hD fun G2 H2 R2 S2 V2 => P _ G2 H2 R2 (S1.trans S2) V2 (nw_back S1 _ fun p z => by
          cases z
          exact hD)
    · rw [if_neg h2] at q
      cases q
/-- [elt for tg in it if ..] -/
theorem ed_lc (hc : X.calm = true) (hN : X.N.Nodup) (hi : ID X tg it fi) (ok : blkC X.N X.env.scope scope own = true) (hS : ∀ i ∈ S, i ∈ own.map (·.2))
    (hg : ∀ (s : Shared) (H : Hp) (C : Addr) (cl : List (Str × Addr)) (fp : List Addr), GD (X.blk s H scope (compEnvC scope cl C X.env) fp) tg S γ) (ht : ∀ (s : Shared) (H : Hp) (C : Addr) (cl : List (Str × Addr)) (fp : List Addr), PTD (X.blk s H scope (compEnvC scope cl C X.env) fp) ifs tst)
    (he : ∀ (s : Shared) (H : Hp) (C : Addr) (cl : List (Str × Addr)) (fp : List Addr), ED (X.blk s H scope (compEnvC scope cl C X.env) fp) elt fe) (hs : ∀ x, foldedSetIterable it X.env x = pure x := by intro _; rfl) :
    ED X (.ListComp elt [⟨tg, it, ifs, 0⟩] scope pos) (x_lc fi γ tst fe (own.map (·.2))) := by
  obtain ⟨wi, pi, k⟩ := hi
  exact ⟨_, pe_lc hc hN pi (blkOk_by ok) (fun s H C cl fp => (hg s H C cl fp).can) (fun s H C cl fp => (ht s H C cl fp).ex) (fun s H C cl fp => (he s H C cl fp).can) hs, x_lc_ok hS k⟩
end
end DL
namespace DL
open PySem PySem.Spec PyProof.Rows L2
/-- the first slot stays the caller's list, if there is one -/
structure Rz (K : PySem.W.Frag) (m : Option Addr) (E : Ef) (G0 G : Hp) (e : Ev) (σ : St) (H : Hp) : Prop where
  r : Rl K m E G0 G e σ H
  z : ∀ p, m = some p → isAc e[0]? = true ∧ σ[0]? = some (some (.ref p))
def PoS (K : PySem.W.Frag) (m : Option Addr) (E : Ef) (G0 G : Hp) (D : Ends) : Fl → Prop
  | .nx e => ∀ G' σ H, Same G G' → Rz K m E G0 G' e σ H → D.nx σ H
  | .bk e => ∀ G' σ H, Same G G' → Rz K m E G0 G' e σ H → D.bk σ H
  | .ct e => ∀ G' σ H, Same G G' → Rz K m E G0 G' e σ H → D.ct σ H
  | .rt r e => ∀ v G' σ H, Same G G' → Rz K m E G0 G' e σ H → Vr K E G' H σ e v r → D.rt v H
structure SD (X : Cx) (st : Stmt) (f : Fs) : Prop where
  ex : ∃ t : TS, PS X st t ∧ ∀ (m : Option Addr) (E : Ef) (G0 G : Hp) (e : Ev) (σ : St) (H : Hp) (fl : Fl) (D : Ends),
    Rz X.K m E G0 G e σ H → f e = some fl → PoS X.K m E G0 G D fl → t D σ H
structure SsD (X : Cx) (sts : List Stmt) (f : Fs) : Prop where
  ex : ∃ t : TS, PSs X sts t ∧ ∀ (m : Option Addr) (E : Ef) (G0 G : Hp) (e : Ev) (σ : St) (H : Hp) (fl : Fl) (D : Ends),
    Rz X.K m E G0 G e σ H → f e = some fl → PoS X.K m E G0 G D fl → t D σ H
section
variable {K : PySem.W.Frag} {m : Option Addr} {E : Ef} {G0 G G' H H' : Hp} {e e' : Ev} {σ σ' : St} {v : V} {d : PyData} {D D' : Ends} {fl : Fl} {i : Nat}
theorem PoS.aft (P : PoS K m E G0 G D fl) (s : Same G G') : PoS K m E G0 G' D fl := by
  cases fl with
  | nx e => exact fun G2 σ H s2 R => P G2 σ H (s.trans s2) R
  | bk e => exact fun G2 σ H s2 R => P G2 σ H (s.trans s2) R
  | ct e => exact fun G2 σ H s2 R => P G2 σ H (s.trans s2) R
  | rt r e => exact fun v G2 σ H s2 R V => P v G2 σ H (s.trans s2) R V
theorem Rz.exp (R : Rz K m E G0 G e σ H) (R' : Rl K m E G0 G' e' σ H') (S : Stp σ G H e G' H' e') : Rz K m E G0 G' e' σ H' :=
  ⟨R', fun p z => ⟨by rw [S.kd 0]; exact (R.z p z).1, (R.z p z).2⟩⟩
def okS (S : List Nat) (e : Ev) : Bool := !(S.contains 0 && isAc e[0]?)
theorem okS_no (h : okS S e = true) (q : isAc e[0]? = true) : 0 ∉ S := by
  intro z
  unfold okS at h
  rw [q, List.contains_iff_mem.mpr z] at h
  cases h
theorem Rz.setI (R : Rz K m E G0 G e σ H) (h : Dp K G v d) (ok : okS [i] e = true) : Rz K m E G0 G (e.set i (some (.im d))) (σ.set i (some v)) H :=
  ⟨R.r.setI i h, fun p z => by
    obtain ⟨z1, z2⟩ := R.z p z
    have n := okS_no ok z1
    have n : i ≠ 0 := fun q => n (by rw [q]; exact List.mem_singleton.mpr rfl)
    rw [List.getElem?_set_ne n, List.getElem?_set_ne n]
    exact ⟨z1, z2⟩⟩
theorem Rz.setA {ds : List PyData} (R : Rz K m E G0 G e σ H) (h : Vr K E G H σ e v (.ac ds)) (ok : okS [i] e = true) : Rz K m E G0 G (e.set i (some (.ac ds))) (σ.set i (some v)) H :=
  ⟨R.r.setA i h, fun p z => by
    obtain ⟨z1, z2⟩ := R.z p z
    have n := okS_no ok z1
    have n : i ≠ 0 := fun q => n (by rw [q]; exact List.mem_singleton.mpr rfl)
    rw [List.getElem?_set_ne n, List.getElem?_set_ne n]
    exact ⟨z1, z2⟩⟩
end
def s_seq (f g : Fs) : Fs := fun e => match f e with
  | some (.nx e1) => g e1
  | some x => some x
  | none => none
def s_nx : Fs := fun e => some (.nx e)
def s_no : Fs := fun _ => none
section
variable {X : Cx} {st : Stmt} {rest : List Stmt} {f g : Fs} {pos : Pos} {a : Expr} {fe : Fe}
theorem ssd_nil : SsD X [] s_nx := ⟨_, pss_nil, fun m E G0 G e σ H fl D R q P => by
  cases q
  exact P G σ H (Same.refl _) R⟩
theorem ssd_cons (h : SD X st f) (h2 : SsD X rest g) : SsD X (st :: rest) (s_seq f g) := by
  obtain ⟨t, p, k⟩ := h
  obtain ⟨t2, p2, k2⟩ := h2
  refine ⟨_, pss_cons p p2, fun m E G0 G e σ H fl D R q P => ?_⟩
  unfold s_seq at q
  split at q
  · rename_i e1 h1
    refine k m E G0 G e σ H _ _ R h1 ?_
    exact fun G' σ' H' s R' => k2 m E G0 G' e1 σ' H' fl D R' q (P.aft s)
  · rename_i x h2 h1
    cases q
    refine k m E G0 G e σ H _ _ R h1 ?_
    cases fl with
    | nx e1 => exact (h2 e1 rfl).elim
    | bk e => exact P
    | ct e => exact P
    | rt r e => exact P
  · cases q
theorem ssd_one (h : SD X st f) : SsD X [st] f := by
  obtain ⟨t, p, k⟩ := h
  exact ⟨_, pss_one p, k⟩
theorem sd_never : SD X st s_no := ⟨_, ps_never, fun m E G0 G e σ H fl D R q P => by cases q⟩
def s_drop (f : Fe) : Fs := fun e => match f e with
  | some (_, e1) => some (.nx e1)
  | none => none
theorem sd_expr (h : ED X a fe) (hs : swapsWith a none pos.line X.env = pure false := by rfl) : SD X (.Expr a pos) (s_drop fe) := by
  obtain ⟨t, p, k⟩ := h
  refine ⟨_, ps_expr p hs, fun m E G0 G e σ H fl D R q P => ?_⟩
  unfold s_drop at q
  split at q
  · rename_i r e1 h1
    cases q
    exact k m E G0 G e σ H _ _ _ R.r h1 fun v G' H' R' S' V N => P G' σ H' S'.gg (R.exp R' S')
  · cases q
def s_ret (f : Fe) : Fs := fun e => match f e with
  | some (r, e1) => some (.rt r e1)
  | none => none
theorem sd_ret (h : ED X a fe) : SD X (.Return (some a) pos) (s_ret fe) := by
  obtain ⟨t, p, k⟩ := h
  refine ⟨_, ps_ret p, fun m E G0 G e σ H fl D R q P => ?_⟩
  unfold s_ret at q
  split at q
  · rename_i r e1 h1
    cases q
    exact k m E G0 G e σ H _ _ _ R.r h1 fun v G' H' R' S' V N => P v G' σ H' S'.gg (R.exp R' S') V
  · cases q
def s_if (c : Ft) (f g : Fs) : Fs := fun e => match c e with
  | some (true, e1) => f e1
  | some (false, e1) => g e1
  | none => none
theorem sd_if {tst : Expr} {A B : List Stmt} {c : Ft} (hc : TD X tst c) (ha : SsD X A f) (hb : SsD X B g) : SD X (.If tst A B pos) (s_if c f g) := by
  obtain ⟨t, p, k⟩ := hc
  obtain ⟨t1, p1, k1⟩ := ha
  obtain ⟨t2, p2, k2⟩ := hb
  refine ⟨_, ps_if p p1 p2, fun m E G0 G e σ H fl D R q P => ?_⟩
  unfold s_if at q
  split at q
  · rename_i e1 h1
    refine k m E G0 G e σ H true e1 _ R.r h1 fun G' H' R' S' => ?_
    rw [if_pos rfl]
    exact k1 m E G0 G' e1 σ H' fl D (R.exp R' S') q (P.aft S'.gg)
  · rename_i e1 h1
    refine k m E G0 G e σ H false e1 _ R.r h1 fun G' H' R' S' => ?_
    rw [if_neg Bool.false_ne_true]
    exact k2 m E G0 G' e1 σ H' fl D (R.exp R' S') q (P.aft S'.gg)
  · cases q
def putA (i : Nat) (e : Ev) : Rs → Option Ev
  | .im d => some (e.set i (some (.im d)))
  | .ac ds => some (e.set i (some (.ac ds)))
  | .br _ => none
def s_set (i : Nat) (f : Fe) : Fs := fun e => match f e with
  | some (r, e1) => if okS [i] e1 = true then (match putA i e1 r with
    | some e2 => some (.nx e2)
    | none => none) else none
  | none => none
def s_setF (i : Nat) (f : Fe) : Fs := s_set i fun e => match f e with
  | some (r, e1) => some (frzR r, e1)
  | none => none
theorem set_ok {i : Nat} {te : TE} (k : ∀ (m : Option Addr) (E : Ef) (G0 G : Hp) (e : Ev) (σ : St) (H : Hp) (r : Rs) (e' : Ev) (Q : VK), Rl X.K m E G0 G e σ H → fe e = some (r, e') → Po X.K m E G0 σ G H e r e' Q → te σ H Q)
    (m : Option Addr) (E : Ef) (G0 G : Hp) (e : Ev) (σ : St) (H : Hp) (fl : Fl) (D : Ends) (R : Rz X.K m E G0 G e σ H) (q : s_set i fe e = some fl) (P : PoS X.K m E G0 G D fl) : tAsg te (gName i) D σ H := by
  unfold s_set at q
  split at q
  · rename_i r e1 h1
    by_cases ok : okS [i] e1 = true
    · rw [if_pos ok] at q
      refine k m E G0 G e σ H _ _ _ R.r h1 fun v G' H' R' S' V N => ?_
      have Rx := R.exp R' S'
      cases r with
      | im d =>
        cases q
        exact P G' _ H' S'.gg (Rx.setI V ok)
      | ac ds =>
        cases q
        exact P G' _ H' S'.gg (Rx.setA V ok)
      | br j => cases q
    · rw [if_neg ok] at q
      cases q
  · cases q
theorem frz_k {te : TE} (k : ∀ (m : Option Addr) (E : Ef) (G0 G : Hp) (e : Ev) (σ : St) (H : Hp) (r : Rs) (e' : Ev) (Q : VK), Rl X.K m E G0 G e σ H → fe e = some (r, e') → Po X.K m E G0 σ G H e r e' Q → te σ H Q)
    (m : Option Addr) (E : Ef) (G0 G : Hp) (e : Ev) (σ : St) (H : Hp) (r : Rs) (e' : Ev) (Q : VK) (R : Rl X.K m E G0 G e σ H) (q : (match fe e with
      | some (r, e1) => some (frzR r, e1)
      | none => none) = some (r, e')) (P : Po X.K m E G0 σ G H e r e' Q) : te σ H Q := by
  split at q
  · rename_i r1 e1 h1
    cases q
    refine k m E G0 G e σ H _ _ _ R h1 fun v G' H' R' S' V N => ?_
    obtain ⟨G2, R2, S2, s2, V2⟩ := R'.freeze S' V N
    exact P v G2 H' R2 S2 V2 (by cases r1 <;> exact True.intro)
  · cases q
section
variable {i : Nat} {x : Str} {pos' : Pos}
theorem sd_set (i : Nat) (hN : X.N.Nodup) (h : ED X a fe) (hi : X.N[i]? = some x := by rfl) (hx : Loc X.env.scope x := by first | exact .inl rfl | exact .inr rfl) (hs : swapsWith a (some (.Name x pos')) pos.line X.env = pure false := by rfl) (hf : X.fn x = true ∨ X.env.scope.names.lookup x = some .local := by first | exact .inl rfl | exact .inr rfl | assumption) :
    SD X (.Assign [.Name x pos'] a pos) (s_set i fe) := by
  obtain ⟨t, p, k⟩ := h
  exact ⟨_, ps_set hN hi hx p hs hf, set_ok k⟩
theorem sd_setF (i : Nat) (hN : X.N.Nodup) (h : ED X a fe) (hi : X.N[i]? = some x := by rfl) (hx : Loc X.env.scope x := by first | exact .inl rfl | exact .inr rfl) (hs : swapsWith a (some (.Name x pos')) pos.line X.env = pure false := by rfl) (hf : X.fn x = true ∨ X.env.scope.names.lookup x = some .local := by first | exact .inl rfl | exact .inr rfl | assumption) :
    SD X (.Assign [.Name x pos'] a pos) (s_setF i fe) := by
  obtain ⟨t, p, k⟩ := h
  exact ⟨_, ps_set hN hi hx p hs hf, set_ok (frz_k k)⟩
end
section
variable {elt tg it : Expr} {ifs : List Expr} {scope : Scope} {own : List (Str × Nat)} {lpos spos : Pos} {fi : Fi} {S : List Nat} {γ : PyData → Ev → Option Ev} {tst : Ft} {fe : Fe} {x : Str} {pos' : Pos}
theorem sd_setLcF (i : Nat) (hc : X.calm = true) (hN : X.N.Nodup) (hi : ID X tg it fi) (ok : blkC X.N X.env.scope scope own = true) (hS : ∀ i ∈ S, i ∈ own.map (·.2))
    (hg : ∀ (s : Shared) (H : Hp) (C : Addr) (cl : List (Str × Addr)) (fp : List Addr), GD (X.blk s H scope (compEnvC scope cl C X.env) fp) tg S γ) (ht : ∀ (s : Shared) (H : Hp) (C : Addr) (cl : List (Str × Addr)) (fp : List Addr), PTD (X.blk s H scope (compEnvC scope cl C X.env) fp) ifs tst)
    (he : ∀ (s : Shared) (H : Hp) (C : Addr) (cl : List (Str × Addr)) (fp : List Addr), ED (X.blk s H scope (compEnvC scope cl C X.env) fp) elt fe) (hs : ∀ x, foldedSetIterable it X.env x = pure x := by intro _; rfl)
    (hy : X.N[i]? = some x := by rfl) (hyl : X.env.scope.names.lookup x = some .local := by rfl) (hsw : swapsWith (.ListComp elt [⟨tg, it, ifs, 0⟩] scope lpos) (some (.Name x pos')) spos.line X.env = pure true := by rfl) :
    SD X (.Assign [.Name x pos'] (.ListComp elt [⟨tg, it, ifs, 0⟩] scope lpos) spos) (s_setF i (x_lc fi γ tst fe (own.map (·.2)))) := by
  obtain ⟨wi, pi, k⟩ := hi
  exact ⟨_, ps_setLc hc hN hy hyl hsw pi (blkOk_by ok) (fun s H C cl fp => (hg s H C cl fp).can) (fun s H C cl fp => (ht s H C cl fp).ex) (fun s H C cl fp => (he s H C cl fp).can) hs, set_ok (frz_k (x_lc_ok hS k))⟩
end
def forGo (γ : PyData → Ev → Option Ev) (S : List Nat) (fb : Fs) : List PyData → Ev → Option Fl
  | [], e => some (.nx e)
  | d :: ds, e => if okS S e = true then (match γ d e with
    | some e2 => (match fb e2 with
      | some (.nx e3) => forGo γ S fb ds e3
      | some (.ct e3) => forGo γ S fb ds e3
      | some (.bk e3) => some (.nx e3)
      | some (.rt r e3) => some (.rt r e3)
      | none => none)
    | none => none) else none
def s_for (fi : Fi) (γ : PyData → Ev → Option Ev) (S : List Nat) (fb : Fs) : Fs := fun e => match fi e with
  | some (ds, e1) => forGo γ S fb ds e1
  | none => none
/-- whatever the rule of the statement: the items are told, the body is read -/
theorem sd_forG {PIx : TI → Prop} {st : Stmt} {tg : Expr} {body : List Stmt} {fi : Fi} {S : List Nat} {γ : PyData → Ev → Option Ev} {fb : Fs} (mk : ∀ {wi : TI} {g : TG} {tb : TS}, PIx wi → PG X tg g → PSs X body tb → PS X st (tFor wi g tb))
    (hi : ∃ wi, PIx wi ∧ ∀ (m : Option Addr) (E : Ef) (G0 G : Hp) (e : Ev) (σ : St) (H : Hp) (ds : List PyData) (e' : Ev) (Q : It → Hp → Prop),
    Rl X.K m E G0 G e σ H → fi e = some (ds, e') → (∀ J G' H', Rl X.K m E G0 G' e' σ H' → Stp σ G H e G' H' e' → WalkD X.K G' J ds → Q J H') → wi σ H Q) (hg : GD X tg S γ) (hb : SsD X body fb) : SD X st (s_for fi γ S fb) := by
  obtain ⟨wi, pi, ki⟩ := hi
  obtain ⟨g, pg, kg⟩ := hg
  obtain ⟨tb, pb, kb⟩ := hb
  refine ⟨_, mk pi pg pb, fun m E G0 G e σ H fl D R q P => ?_⟩
  unfold s_for at q
  cases h1 : fi e with
  | none => simp only [h1] at q; cases q
  | some z =>
    obtain ⟨ds, e1⟩ := z
    simp only [h1] at q
    refine ki m E G0 G e σ H ds e1 _ R.r h1 fun J G1 H1 R1 S1 W1 => ?_
    let W : Nat → Nat → St → Hp → Prop := fun i mm σ H => ∃ G2 e2, mm = ds.length - i ∧ i ≤ ds.length ∧ Rz X.K m E G0 G2 e2 σ H ∧ Same G1 G2 ∧ forGo γ S fb (ds.drop i) e2 = some fl
    refine ⟨W, ⟨ds.length, G1, e1, by simp, Nat.zero_le _, R.exp R1 S1, Same.refl _, by simpa using q⟩, ?_⟩
    rintro i mm σ2 H2 ⟨G2, e2, rfl, hi, R2, s2, lc⟩
    obtain ⟨wk, stop⟩ := W1 G2 H2 s2 R2.r.gh
    by_cases hlt : i < ds.length
    · have hd : ds.drop i = ds[i] :: ds.drop (i + 1) := by rw [List.drop_eq_getElem_cons hlt]
      have hget : ds[i]? = some ds[i] := List.getElem?_eq_getElem hlt
      rw [hd] at lc
      generalize ds[i] = d at lc hget hd
      obtain ⟨go, yl⟩ := wk i d hget
      refine .inr ⟨go, W (i + 1) (ds.length - (i + 1)), fun σ' H' h => ⟨_, by omega, h⟩, fun x H' y => ?_⟩
      have hY : ∃ G', Rz X.K m E G0 G' e2 σ2 H' ∧ Same G2 G' ∧ Dp X.K G' x d := by
        rcases yl x H' y with ⟨rfl, h⟩ | ⟨T, us, es, rfl, nT, rfl, rfl, h⟩
        · exact ⟨G2, R2, Same.refl _, h⟩
        · obtain ⟨R', S', D'⟩ := R2.r.newT nT h
          exact ⟨_, R2.exp R' S', S'.gg, D'⟩
      obtain ⟨G', R', s', dx⟩ := hY
      simp only [forGo] at lc
      by_cases ok : okS S e2 = true
      · rw [if_pos ok] at lc
        cases h2 : γ d e2 with
        | none => simp only [h2] at lc; cases lc
        | some e3 =>
          simp only [h2] at lc
          refine kg m E G0 G' e2 σ2 H' x d e3 _ R'.r dx h2 fun σ3 R3 out sl el ac1 => ?_
          have R3' : Rz X.K m E G0 G' e3 σ3 H' := ⟨R3, fun p z => by
            obtain ⟨z1, z2⟩ := R'.z p z
            obtain ⟨o1, o2⟩ := out 0 (okS_no ok z1)
            rw [o1, o2]
            exact ⟨z1, z2⟩⟩
          cases h3 : fb e3 with
          | none => simp only [h3] at lc; cases lc
          | some x3 =>
            refine kb m E G0 G' e3 σ3 H' x3 _ R3' h3 ?_
            cases x3 with
            | nx e4 =>
              simp only [h3] at lc
              exact fun G4 σ4 H4 s4 R4 => ⟨G4, e4, rfl, hlt, R4, s2.trans (s'.trans s4), lc⟩
            | ct e4 =>
              simp only [h3] at lc
              exact fun G4 σ4 H4 s4 R4 => ⟨G4, e4, rfl, hlt, R4, s2.trans (s'.trans s4), lc⟩
            | bk e4 =>
              simp only [h3, Option.some.injEq] at lc
              subst lc
              exact fun G4 σ4 H4 s4 R4 => P G4 σ4 H4 (S1.gg.trans (s2.trans (s'.trans s4))) R4
            | rt r e4 =>
              simp only [h3, Option.some.injEq] at lc
              subst lc
              exact fun v G4 σ4 H4 s4 R4 V => P v G4 σ4 H4 (S1.gg.trans (s2.trans (s'.trans s4))) R4 V
      · rw [if_neg ok] at lc
        cases lc
    · have hi2 : i = ds.length := by omega
      subst hi2
      rw [List.drop_length] at lc
      cases lc
      exact .inl ⟨stop, P G2 σ2 H2 (S1.gg.trans s2) R2⟩
theorem sd_for {tg it : Expr} {body : List Stmt} {fi : Fi} {S : List Nat} {γ : PyData → Ev → Option Ev} {fb : Fs} (hc : X.calm = true) (hp : PassesOwn (model X.prog X.w) X.A X.env X.xe) (hi : ID X tg it fi) (hg : GD X tg S γ) (hb : SsD X body fb)
    (hs : ∀ x, foldedSetIterable it X.env x = pure x := by intro _; rfl) : SD X (.For tg it body [] pos) (s_for fi γ S fb) := sd_forG (fun pi pg pb => ps_for hp hc pi pg pb hs) hi.ex hg hb
def whGo (tst : Ft) (fb : Fs) : Nat → Ev → Option Fl
  | 0, _ => none
  | n + 1, e => match tst e with
    | some (false, e1) => some (.nx e1)
    | some (true, e1) => (match fb e1 with
      | some (.nx e3) => whGo tst fb n e3
      | some (.ct e3) => whGo tst fb n e3
      | some (.bk e3) => some (.nx e3)
      | some (.rt r e3) => some (.rt r e3)
      | none => none)
    | none => none
def s_while (n : Ev → Nat) (tst : Ft) (fb : Fs) : Fs := fun e => whGo tst fb (n e) e
theorem sd_while (n : Ev → Nat) {c : Expr} {body : List Stmt} {tst : Ft} {fb : Fs} (hp : PassesOwn (model X.prog X.w) X.A X.env X.xe) (hc : TD X c tst) (hb : SsD X body fb) : SD X (.While c body [] pos) (s_while n tst fb) := by
  obtain ⟨tc, pc, kc⟩ := hc
  obtain ⟨tb, pb, kb⟩ := hb
  refine ⟨_, ps_while hp pc pb, fun m E G0 G e σ H fl D R q P => ?_⟩
  let W : Nat → St → Hp → Prop := fun mm σ H => ∃ G2 e2, Rz X.K m E G0 G2 e2 σ H ∧ Same G G2 ∧ whGo tst fb mm e2 = some fl
  refine ⟨W, ⟨n e, G, e, R, Same.refl _, q⟩, ?_⟩
  rintro mm σ2 H2 ⟨G2, e2, R2, s2, lc⟩
  cases mm with
  | zero => cases lc
  | succ mm =>
    simp only [whGo] at lc
    cases h1 : tst e2 with
    | none => simp only [h1] at lc; cases lc
    | some z =>
      obtain ⟨b, e3⟩ := z
      refine kc m E G0 G2 e2 σ2 H2 b e3 _ R2.r h1 fun G3 H3 R3 S3 => ?_
      have Rx := R2.exp R3 S3
      cases b with
      | false =>
        simp only [h1, Option.some.injEq] at lc
        subst lc
        rw [if_neg Bool.false_ne_true]
        exact P G3 σ2 H3 (s2.trans S3.gg) Rx
      | true =>
        simp only [h1] at lc
        rw [if_pos rfl]
        refine ⟨W mm, fun σ' H' h => ⟨mm, Nat.lt_succ_self _, h⟩, ?_⟩
        cases h3 : fb e3 with
        | none => simp only [h3] at lc; cases lc
        | some x3 =>
          refine kb m E G0 G3 e3 σ2 H3 x3 _ Rx h3 ?_
          cases x3 with
          | nx e4 =>
            simp only [h3] at lc
            exact fun G4 σ4 H4 s4 R4 => ⟨G4, e4, R4, s2.trans (S3.gg.trans s4), lc⟩
          | ct e4 =>
            simp only [h3] at lc
            exact fun G4 σ4 H4 s4 R4 => ⟨G4, e4, R4, s2.trans (S3.gg.trans s4), lc⟩
          | bk e4 =>
            simp only [h3, Option.some.injEq] at lc
            subst lc
            exact fun G4 σ4 H4 s4 R4 => P G4 σ4 H4 (s2.trans (S3.gg.trans s4)) R4
          | rt r e4 =>
            simp only [h3, Option.some.injEq] at lc
            subst lc
            exact fun v G4 σ4 H4 s4 R4 V => P v G4 σ4 H4 (s2.trans (S3.gg.trans s4)) R4 V
end
end DL
namespace DL
open PySem PySem.Spec PyProof.Rows L2
section
variable {K : PySem.W.Frag} {m : Option Addr} {E : Ef} {G0 G H : Hp} {e : Ev} {σ : St} {i : Nat} {p : Addr} {d0 ds : List PyData} {ws : List V}
theorem Rl.put (R : Rl K m E G0 G e σ H) (h : e[i]? = some (some (.ac d0))) (hp : σ[i]? = some (some (.ref p))) (q : DpAll K G ws ds) :
    Rl K m E G0 G (e.set i (some (.ac ds))) σ (upd H p (.lst ws)) ∧ Stp σ G H e G (upd H p (.lst ws)) (e.set i (some (.ac ds))) := by
  obtain ⟨p', w0, h1, h2, h3, h4, h5⟩ := R.ac i d0 h
  rw [hp] at h1
  cases h1
  have hl : i < e.length := (List.getElem?_eq_some_iff.mp h).1
  refine ⟨⟨R.gg, fun b o z => ?_, fun b o z1 z2 => ?_, fun b z => ⟨(R.mh b z).1, ?_⟩, R.nw, by rw [List.length_set]; exact R.len, fun j d z => ?_, fun j dj z => ?_, fun j k dj dk p' q1 q2 q3 q4 => ?_, fun j dss z => ?_⟩,
    Same.refl _, fun _ z _ => z, fun a o z1 z2 => ?_, fun j => ?_, fun a z => ?_⟩
  · rw [upd_ne (ne_of_none z h2)]
    exact R.gh b o z
  · have n : b ≠ p := fun y => by
      rcases h5 with h5 | h5
      · rw [y, h5] at z1
        cases z1
      · exact z2 (by rw [y]; exact h5.1)
    rw [upd_ne n]
    exact R.eh b o z1 z2
  · by_cases n : b = p
    · rw [n, upd_same]
      simp
    · rw [upd_ne n]
      exact (R.mh b z).2
  · rw [set_get] at z
    by_cases y : i = j ∧ j < e.length
    · rw [if_pos y] at z
      cases z
    · rw [if_neg y] at z
      exact R.im j d z
  · rw [set_get] at z
    by_cases y : i = j ∧ j < e.length
    · rw [if_pos y] at z
      cases z
      rw [← y.1]
      exact ⟨p, ws, hp, h2, upd_same, q, h5⟩
    · rw [if_neg y] at z
      obtain ⟨p', ws', a1, a2, a3, a4, a5⟩ := R.ac j dj z
      have n : p' ≠ p := fun y2 => by
        rw [y2] at a1
        have := R.inj i j d0 dj p h z hp a1
        exact y ⟨this, by rw [← this]; exact hl⟩
      exact ⟨p', ws', a1, a2, by rw [upd_ne n]; exact a3, a4, a5⟩
  · have old : ∀ {j : Nat} {dj : List PyData}, (e.set i (some (.ac ds)))[j]? = some (some (.ac dj)) → ∃ dj', e[j]? = some (some (.ac dj')) := fun {j dj} z => by
      rw [set_get] at z
      by_cases y : i = j ∧ j < e.length
      · exact ⟨d0, by rw [← y.1]; exact h⟩
      · rw [if_neg y] at z
        exact ⟨dj, z⟩
    obtain ⟨d1, o1⟩ := old q1
    obtain ⟨d2, o2⟩ := old q2
    exact R.inj j k d1 d2 p' o1 o2 q3 q4
  · rw [set_get] at z
    by_cases y : i = j ∧ j < e.length
    · rw [if_pos y] at z
      cases z
      exact True.intro
    · rw [if_neg y] at z
      exact R.ot j dss z
  · have n : a ≠ p := fun y => z2 ⟨i, d0, h, by rw [y]; exact hp⟩
    rw [upd_ne n]
    exact z1
  · rw [set_get]
    by_cases y : i = j ∧ j < e.length
    · rw [if_pos y, ← y.1, h]
      rfl
    · rw [if_neg y]
  · by_cases n : a = p
    · rw [n, upd_same]
      simp
    · rw [upd_ne n]
      exact z
end
section
variable {X : Cx} {a b : Expr} {fa fb : Fe} {pos : Pos}
def x_app (i : Nat) (fa : Fe) : Fe := fun e => if isAc e[i]? = true then (match fa e with
  | some (r, e1) => (match imR (frzR r), e1[i]? with
    | some d, some (some (.ac ds)) => if okLen (ds.length + 1) = true then some (.im .none, e1.set i (some (.ac (ds ++ [d])))) else none
    | _, _ => none)
  | none => none) else none
theorem frz_im {r : Rs} {d : PyData} (h : imR (frzR r) = some d) : frzR r = .im d := by
  cases r with
  | im d =>
    cases h
    rfl
  | ac ds =>
    cases h
    rfl
  | br i => cases h
theorem Rl.acP {K : PySem.W.Frag} {m : Option Addr} {E : Ef} {G0 G H : Hp} {e : Ev} {σ : St} {i : Nat} (R : Rl K m E G0 G e σ H) (h : isAc e[i]? = true) :
    ∃ p ws, σ[i]? = some (some (.ref p)) ∧ H p = some (.lst ws) := by
  obtain ⟨ds', q⟩ := isAc_iff.mp h
  obtain ⟨p, ws, h1, h2, h3, _⟩ := R.ac i ds' q
  exact ⟨p, ws, h1, h3⟩
theorem len_lt {n : Nat} (h : okLen (n + 1) = true) : n < sizeLine := by
  have := okLen_ok h
  omega
/-- xs.append(e) -/
theorem ed_app (i : Nat) {x : Str} {np apos : Pos} (ha : ED X a fa) (hN : X.N[i]? = some x := by rfl)
    (hv : Vis X.env.scope x := by first | exact Or.inl rfl | exact Or.inr (Or.inl rfl) | exact Or.inr (Or.inr rfl)) (hd : (x == ("__debug__" : Str)) = false := by decide) (hcd : (x == ("__classdict__" : Str)) = false := by decide)
    (hbase : attributeBase (.Name x np) "append" X.env (eval (.Name x np) X.env) = eval (.Name x np) X.env := by rfl)
    (hfew : ((backTo pos (starEach [a] X.env)).all (fun x => !x.1) && (backToKw pos (keywordEach [] X.env)).all (fun x => x.1.isSome)
      && decide (([a] : List Expr).length + ([] : List Keyword).length + (if ([] : List Keyword).isEmpty then 0 else 1) < 30)) = true := by rfl)
    (hline : (apos.endLine == pos.line) = true := by rfl) (hs : starEach [a] X.env = (false, eval a X.env) :: starEach [] X.env := by rfl) (hplain : (backTo pos (starEach [] X.env)).any (·.1) = false := by rfl) :
    ED X (.Call (.Attribute (.Name x np) "append" apos) [a] [] pos) (x_app i fa) := by
  obtain ⟨t, p, k⟩ := ha
  refine ⟨_, pe_bm PySem.F.plainAttrs_list PySem.F.slot_list_append PySem.F.type_list_append mt_append (pe_var hN hv hd hcd) (pa_cons p pa_nil hs) hbase hfew hline hs hplain, fun m E G0 G e σ H r e' Q R q P => ?_⟩
  unfold x_app at q
  by_cases h0 : isAc e[i]? = true
  · rw [if_pos h0] at q
    obtain ⟨l, w0, hσ, hl⟩ := R.acP h0
    refine ⟨.ref l, hσ, .inl ⟨rfl, w0, .inl (.inl hl)⟩, ?_⟩
    split at q
    · rename_i r1 e1 h1
      split at q
      · rename_i d ds h2 h3
        by_cases h4 : okLen (ds.length + 1) = true
        · rw [if_pos h4] at q
          cases q
          refine k m E G0 G e σ H r1 e1 _ R h1 fun v G1 H1 R1 S1 V1 N1 => ?_
          obtain ⟨G2, R2, S2, s2, V2⟩ := R1.freeze S1 V1 N1
          rw [frz_im h2] at V2
          obtain ⟨p', ws, q1, q2, q3, q4, q5⟩ := R2.ac i ds h3
          rw [hσ] at q1
          cases q1
          obtain ⟨R3, S3⟩ := R2.put h3 hσ (dpAll_app q4 (.cons V2 .nil))
          exact ⟨l, ws, v, rfl, rfl, q3, by rw [dpAll_len q4]; exact len_lt h4, P .non G2 _ R3 (S2.trans S3) .non True.intro⟩
        · rw [if_neg h4] at q
          cases q
      · cases q
    · cases q
  · rw [if_neg h0] at q
    cases q
end
end DL
namespace DL
open PySem PySem.Spec PyProof.Rows L2
def VrF (K : PySem.W.Frag) (G H H' : Hp) (v : V) : Rs → Prop
  | .im d => Dp K G v d
  | .ac ds => ∃ p ws, v = .ref p ∧ H p = none ∧ G p = none ∧ H' p = some (.lst ws) ∧ DpAll K G ws ds
  | .br _ => False
/-- n data in, a result out -/
def spD (K : PySem.W.Frag) (n : Nat) (φ : List PyData → Option Rs) : Sp := fun vs H Q _ => ∃ G ds r, Same G H ∧ DpAll K G vs ds ∧ vs.length = n ∧ φ ds = some r ∧
  ∀ v G' H', Same G G' → Same G' H' → Same H H' → (∀ a, G a = none → H a ≠ none → G' a = none) → VrF K G' H H' v r → Q v H'
/-- a def of the module that is kept: where it lies, what it promises, how it is called -/
inductive Kf (P : Program) (w : World) (K : PySem.W.Frag) (mg : Str → Option Value) (base : Heap) (k : Nat) (x : Str) (sp : Sp) (dvs : List V) : Prop where
  | kept (at_ : Addr) (fd : FuncData) (names : List Str) (given : List Value) (fn : FnOk P w K mg base CX0 k at_ fd names sp) (here : mg x = some (.ref at_)) (stays : PySem.W.keepIn K (.ref at_) = true) (binds : Binds K fd names given) (vals : Vals dvs given)
def x_call (φ : List PyData → Option Rs) (dds : List PyData) (fa : Fa) : Fe := fun e => match argsI fa e with
  | some (ds, e1) => (match φ (ds ++ dds) with
    | some (.im d) => some (.im d, e1)
    | some (.ac cs) => some (.ac cs, e1)
    | _ => none)
  | none => none
section
variable {K : PySem.W.Frag} {m : Option Addr} {E : Ef} {G0 G G' H H' : Hp} {e : Ev} {σ : St} {v : V} {r : Rs}
/-- behind a call that writes nothing -/
theorem Rl.called (R : Rl K m E G0 G e σ H) (s1 : Same G G') (s2 : Same G' H') (s3 : Same H H') (n : ∀ a, G a = none → H a ≠ none → G' a = none) : Rl K m E G0 G' e σ H' ∧ Stp σ G H e G' H' e := by
  have th : ∀ a, H a ≠ none → H' a ≠ none := fun a z => by
    cases q : H a with
    | none => exact absurd q z
    | some o => rw [s3 a o q]; simp
  refine ⟨⟨R.gg.trans s1, s2, fun a o z1 z2 => s3 a o (R.eh a o z1 z2), fun a z => ⟨(R.mh a z).1, th a (R.mh a z).2⟩, fun a z1 z2 => n a (R.nw a z1 z2) ?_, R.len, fun i d q => ?_, fun i ds q => ?_, R.inj, fun i dss q => (R.ot i dss q).mono s1⟩, s1, n, fun a o z _ => s3 a o z, fun _ => rfl, th⟩
  · by_cases y : m = some a
    · exact (R.mh a y).2
    · cases q : E a with
      | none => exact absurd q z2
      | some o => rw [R.eh a o q y]; simp
  · obtain ⟨v, h1, h2⟩ := R.im i d q
    exact ⟨v, h1, dp_same s1 h2⟩
  · obtain ⟨p, ws, h1, h2, h3, h4, h5⟩ := R.ac i ds q
    exact ⟨p, ws, h1, n p h2 (by rw [h3]; simp), s3 p _ h3, dpAll_same s1 h4, h5⟩
theorem Rl.vrf (R : Rl K m E G0 G e σ H) (h : VrF K G' H H' v r) : Vr K E G' H' σ e v r ∧ Nw H v r := by
  cases r with
  | im d => exact ⟨h, True.intro⟩
  | br i => exact h.elim
  | ac ds =>
    obtain ⟨p, ws, rfl, h1, h2, h3, h4⟩ := h
    obtain ⟨f1, f2, f3, f4⟩ := R.fresh h1
    exact ⟨⟨p, ws, rfl, f2, h2, h3, h4, f3⟩, fun q z => by
      cases z
      exact h1⟩
end
def dvsD (K : PySem.W.Frag) (dvs : List V) (dds : List PyData) : Prop := ∀ G : Hp, DpAll K G dvs dds
theorem dvs0 {K : PySem.W.Frag} : dvsD K [] [] := fun _ => .nil
section
variable {X : Cx} {a : Expr} {es : List Expr} {fa : Fa} {p pos : Pos} {x : Str} {j k n : Nat} {dvs : List V} {dds : List PyData}
theorem call_ok {φ : List PyData → Option Rs} {t : TA} (hd : dvsD X.K dvs dds) (hn : ∀ ds, (φ ds).isSome = true → ds.length = n)
    (kk : ∀ (m : Option Addr) (E : Ef) (G0 G : Hp) (e : Ev) (σ : St) (H : Hp) (rs : List Rs) (e' : Ev) (Q : List V → Hp → Prop),
    Rl X.K m E G0 G e σ H → fa e = some (rs, e') → (∀ vs G' H', Rl X.K m E G0 G' e' σ H' → Stp σ G H e G' H' e' → VrAll X.K E G' H' σ e' vs rs → Q vs H') → t σ H Q)
    (m : Option Addr) (E : Ef) (G0 G : Hp) (e : Ev) (σ : St) (H : Hp) (rr : Rs) (e' : Ev) (Q : VK) (R : Rl X.K m E G0 G e σ H) (q : x_call φ dds fa e = some (rr, e')) (P : Po X.K m E G0 σ G H e rr e' Q) : tCall (spD X.K n φ) dvs E0 t σ H Q := by
  unfold x_call at q
  cases h1 : argsI fa e with
  | none => simp only [h1] at q; cases q
  | some z =>
    obtain ⟨ds, e1⟩ := z
    simp only [h1] at q
    obtain ⟨rs, q1, q2⟩ := argsI_ok h1
    have main : ∀ r, φ (ds ++ dds) = some r → r = rr ∧ e1 = e' → tCall (spD X.K n φ) dvs E0 t σ H Q := fun r h2 ⟨z1, z2⟩ => by
      subst z1 z2
      refine kk m E G0 G e σ H rs e1 _ R q1 fun vs G1 H1 R1 S1 V1 => ?_
      have D1 := vr_imAll V1 q2
      have D2 := dpAll_app D1 (hd G1)
      refine ⟨G1, ds ++ dds, r, R1.gh, D2, ?_, h2, fun v G' H' s1 s2 s3 nw vr => ?_⟩
      · rw [dpAll_len D2]
        exact hn _ (by rw [h2]; rfl)
      · obtain ⟨R2, S2⟩ := R1.called s1 s2 s3 nw
        obtain ⟨V2, N2⟩ := R1.vrf vr
        exact P v G' H' R2 (S1.trans S2) V2 (nw_back S1 v N2)
    cases h2 : φ (ds ++ dds) with
    | none => simp only [h2] at q; cases q
    | some r =>
      cases r with
      | im d =>
        simp only [h2, Option.some.injEq, Prod.mk.injEq] at q
        exact main _ h2 q
      | ac d =>
        simp only [h2, Option.some.injEq, Prod.mk.injEq] at q
        exact main _ h2 q
      | br d => simp only [h2] at q; cases q
theorem ed_call {φ : List PyData → Option Rs} (F : Kf X.prog X.w X.K X.mg X.base k x (spD X.K n φ) dvs) (hr : Room j X.A) (hk : k ≤ j) (hd : dvsD X.K dvs dds) (hn : ∀ ds, (φ ds).isSome = true → ds.length = n) (h : AD X (a :: es) fa) (hg : Gl X x := by rfl)
    (hdb : (x == ("__debug__" : Str)) = false := by decide) (he : starEach (a :: es) X.env = (false, eval a X.env) :: starEach es X.env := by rfl) (hpl : (backTo pos (starEach es X.env)).any (·.1) = false := by rfl) :
    ED X (.Call (.Name x p) (a :: es) [] pos) (x_call φ dds fa) := by
  obtain ⟨f, fd, ps, ds, F, hm, kp, hb, hv⟩ := F
  obtain ⟨t, pa, kk⟩ := h
  exact ⟨_, pe_call F (hr.mono hk) hg hm kp hb hv (E := E0) (fun _ _ _ _ _ _ _ z => z.elim) pa hdb he hpl, call_ok hd hn kk⟩
end
def finR (r : Rs) (e : Ev) : Option Rs := match r with
  | .im d => some (.im d)
  | .ac ds => some (.ac ds)
  | .br i => (match e[i]? with
    | some (some (.ac ds)) => some (.ac ds)
    | _ => none)
def env0 (ds : List PyData) (nl : Nat) : Ev := ds.map (fun d => some (Sl.im d)) ++ List.replicate nl none
def runF (n nl : Nat) (g : Fs) (ds : List PyData) : Option Rs := if ds.length = n then (match g (env0 ds nl) with
  | some (.rt r e) => finR r e
  | some (.nx _) => some (.im .none)
  | _ => none) else none
theorem runF_len {n nl : Nat} {g : Fs} : ∀ ds, (runF n nl g ds).isSome = true → ds.length = n := fun ds h => by
  unfold runF at h
  by_cases z : ds.length = n
  · exact z
  · rw [if_neg z] at h
    cases h
section
variable {K : PySem.W.Frag} {G H : Hp} {vs us : List V} {ds c : List PyData} {nl : Nat}
theorem env0_at {i : Nat} {s : Sl} (h : (env0 ds nl)[i]? = some (some s)) : ∃ d, ds[i]? = some d ∧ s = .im d := by
  unfold env0 at h
  by_cases hi : i < ds.length
  · rw [List.getElem?_append_left (by rw [List.length_map]; exact hi), List.getElem?_map] at h
    cases z : ds[i]? with
    | none => rw [z] at h; cases h
    | some d =>
      rw [z] at h
      cases h
      exact ⟨d, rfl, rfl⟩
  · rw [List.getElem?_append_right (by rw [List.length_map]; omega)] at h
    rw [List.getElem?_replicate] at h
    split at h
    · cases h
    · cases h
theorem st_at {i : Nat} {v : V} {N : List Str} (h : vs[i]? = some v) : (L2.start N vs)[i]? = some (some v) := by
  unfold L2.start
  have hi := (List.getElem?_eq_some_iff.mp h).1
  rw [List.getElem?_append_left (by rw [List.length_map]; exact hi), List.getElem?_map, h]
  rfl
theorem rz_start {N : List Str} (s : Same G H) (q : DpAll K G vs ds) (hl : vs.length + nl = N.length) : Rz K none (Ef.of H) G G (env0 ds nl) (L2.start N vs) H := by
  refine ⟨⟨Same.refl _, s, fun a o z _ => z, fun a z => (by cases z), fun a z _ => z, ?_, fun i d z => ?_, fun i d z => ?_, fun i j di dj p z => ?_, fun i dss z => ?_⟩, fun p z => by cases z⟩
  · unfold env0 L2.start
    simp only [List.length_append, List.length_map, List.length_replicate]
    rw [dpAll_len q] at hl ⊢
    omega
  · obtain ⟨d', z1, z2⟩ := env0_at z
    cases z2
    obtain ⟨v, z3, z4⟩ := dpAll_get q z1
    exact ⟨v, st_at z3, z4⟩
  · obtain ⟨d', z1, z2⟩ := env0_at z
    cases z2
  · obtain ⟨d', z1, z2⟩ := env0_at z
    cases z2
  · obtain ⟨d', z1, z2⟩ := env0_at z
    cases z2
    exact True.intro
end
section
variable {P : Program} {w : World} {K : PySem.W.Frag} {mg : Str → Option Value} {base : Heap} {x qual : Str} {params : Arguments} {body : List Stmt} {scope : Scope} {dvs : List V} {kws : List (Str × V)} {f : Addr} {fd : FuncData} {N ps : List Str} {k n nl : Nat} {g : Fs}
theorem fnD (F : FunD K x qual params body scope dvs kws f fd) (S : FnScope N ps scope) (hp : ps.length = n) (hl : n + nl = N.length)
    (hb : ∀ (cdv : Value) (A : Around) (outer : List Env) (s : Shared) (H : Hp) (E : XK), Room k (A.deeper (envOfC qual scope s.heap.objs.size f cdv)) → SsD (cxOf CX0 P w K mg base N qual scope f cdv A outer s H E).nox body g) :
    FnOk P w K mg base CX0 (k + 1) f fd ps (spD K n (runF n nl g)) := by
  refine F.ok S (fun vs H Q E h => ?_) fun cdv A outer s H vs Q E hr h => ?_
  · obtain ⟨_, _, _, _, _, h, _⟩ := h
    rw [h, hp]
  · obtain ⟨t, pt, kt⟩ := hb cdv A outer s H E hr
    obtain ⟨G, ds, r, s1, hd, hv, hr2, hQ⟩ := h
    refine ⟨t, pt.nox, ?_⟩
    have Rz0 : Rz K none (Ef.of H) G G (env0 ds nl) (L2.start N vs) H := rz_start s1 hd (by omega)
    unfold runF at hr2
    rw [if_pos (by rw [← dpAll_len hd]; exact hv)] at hr2
    split at hr2
    · rename_i r' e' h1
      refine kt none (Ef.of H) G G _ _ H _ _ Rz0 h1 fun v G' σ' H' s2 R' V' => ?_
      have hh : Same H H' := fun a o z => R'.r.eh a o z (by simp)
      have nw : ∀ a, G a = none → H a ≠ none → G' a = none := R'.r.nw
      refine hQ v G' H' s2 R'.r.gh hh nw ?_
      unfold finR at hr2
      cases r' with
      | im d =>
        cases hr2
        exact V'
      | ac d =>
        cases hr2
        obtain ⟨p, ws, a1, a2, a3, a4, a5, _⟩ := V'
        exact ⟨p, ws, a1, a2, a3, a4, a5⟩
      | br i =>
        dsimp only at hr2
        split at hr2
        · rename_i d h2
          cases hr2
          obtain ⟨d', b1, b2⟩ := V'
          obtain ⟨p, ws, a1, a2, a3, a4, a5⟩ := R'.r.ac i d h2
          rw [a1] at b2
          cases b2
          have a5 : H p = none := by
            rcases a5 with a5 | a5
            · exact a5
            · cases a5.1
          exact ⟨p, ws, rfl, a5, a2, a3, a4⟩
        · cases hr2
    · rename_i e' h1
      cases hr2
      refine kt none (Ef.of H) G G _ _ H _ _ Rz0 h1 fun G' σ' H' s2 R' => ?_
      exact hQ .non G' H' s2 R'.r.gh (fun a o z => R'.r.eh a o z (by simp)) R'.r.nw .non
    · cases hr2
end
end DL
namespace DL
open PySem PySem.Spec PyProof.Rows L2
section
variable {X : Cx}
/-- e[..:..:..]: the parts are reckoned one by one, a slice is laid, and the rest goes on from there -/
def tSl (te : TE) (tl th ts : TO) (k : V → Option Int → Option Int → Option Int → Hp → Prop) (σ : St) (H : Hp) : Prop := te σ H fun x Ha => tl σ Ha fun lo Hb => th σ Hb fun hi Hc => ts σ Hc fun st Hd => k x lo hi st Hd
abbrev laidS (s : Shared) (l h t : Value) : Shared := { s with heap := s.heap.push { cls := .type "slice", data := .fields #[l, h, t] } }
theorem run_sl {e : Expr} {lo hi st : Option Expr} {te : TE} {tl th ts : TO} {p3 pos : Pos} {pins : List (Addr × Obj)} {s : Shared} {σ : St} {H : Hp} {Q : VK} {k : V → Option Int → Option Int → Option Int → Hp → Prop} (he : PE X e te) (hl : PO X lo tl) (hh : PO X hi th) (ht : PO X st ts) (I : Inv X pins σ H s) (h : tSl te tl th ts k σ H)
    (next : ∀ x v l vl u vu o vo (s' : Shared) (H' : Hp), RelV x v → IsPart vl l → IsPart vu u → IsPart vo o → Inv X pins σ H' (laidS s' vl vu vo) → k x l u o H' →
      wpAny (model X.prog X.w) X.A (subscriptTail e (.Slice lo hi st p3) v (.ref s'.heap.objs.size)) (EP X pins σ Q) X.xe (laidS s' vl vu vo)) :
    wpAny (model X.prog X.w) X.A (eval (.Subscript e (.Slice lo hi st p3) pos) X.env) (EP X pins σ Q) X.xe s :=
  Subscript_ (thn (he.run pins s σ H _ I h) fun v sa ⟨x, Ha, Ia, rx, qa⟩ => wpAny_Slice (thn (hl.run pins sa σ Ha _ Ia qa) fun vl sb ⟨l, Hb, Ib, rl, qb⟩ => thn (hh.run pins sb σ Hb _ Ib qb) fun vu sc ⟨u, Hc, Ic, ru, qc⟩ =>
    thn (ht.run pins sc σ Hc _ Ic qc) fun vo sd ⟨o, Hd, Id, ro, qd⟩ => next x v l vl u vu o vo sd Hd rx rl ru ro (Id.kept (t' := sd.toks) fun _ _ z => Heap.get?_push_of_some _ z) qd))
end
end DL
namespace DL
open PySem PySem.Spec PySem.W PyProof.Rows L2 Calls
def tI (k : List Int) : PyData := .tuple (k.map PyData.int)
def upT (ks : List (List Int)) : List (List Int) := ks.mergeSort fun p q => decide (p ≤ q)
def okT (ks : List (List Int)) : Bool := decide (ks.length ≤ 1) || ks.all fun k => !k.isEmpty
theorem upT_perm (ks : List (List Int)) : (upT ks).Perm ks := List.mergeSort_perm _ _
theorem upT_pw (ks : List (List Int)) : (upT ks).Pairwise (· ≤ ·) := by
  have z := List.pairwise_mergeSort (le := fun p q : List Int => decide (p ≤ q)) (fun a b c h1 h2 => by
    rw [decide_eq_true_eq] at h1 h2 ⊢
    exact List.le_trans h1 h2) (fun a b => by
    rw [Bool.or_eq_true, decide_eq_true_eq, decide_eq_true_eq]
    exact List.le_total a b) ks
  exact z.imp fun h => of_decide_eq_true h
theorem dataLe_tups : dataLe false tI = fun p q => decide (p ≤ q) := dataLe_rows fun k : List Int => k
theorem alike_tI (p q : List Int) : alike (tI p) (tI q) = true := alike_ints p q
theorem depth_tI (p : List Int) : (tI p).depth ≤ 1 := by
  show PyData.depthAll (p.map .int) + 1 ≤ 1
  rw [depth_ints]
  exact Nat.le_refl _
theorem okT_two {ks : List (List Int)} (h : okT ks = true) (h2 : ¬ ks.length ≤ 1) : Sortable (ks.map tI) := by
  unfold okT at h
  rw [Bool.or_eq_true, decide_eq_true_eq] at h
  rcases h with h | h
  · exact absurd h h2
  · refine .inl fun d hd => ?_
    obtain ⟨k, hk, rfl⟩ := List.mem_map.mp hd
    have z := List.all_eq_true.mp h k hk
    cases k with
    | nil => cases z
    | cons i k => exact ⟨.int i, k.map .int, rfl⟩
theorem perm_one {α : Type} {xs ys : List α} (p : xs.Perm ys) (h : ys.length ≤ 1) : xs = ys := by
  match ys, h with
  | [], _ => exact p.eq_nil
  | [y], _ => exact List.perm_singleton.mp p
theorem upT_one {ks : List (List Int)} (h : ks.length ≤ 1) : upT ks = ks := perm_one (upT_perm ks) h
section
variable {prog : Program} {w : World} {A : Around} {E : Value → Shared → Prop} {s : Shared} {vs : List Value} {ks : List (List Int)} {R : Value → List Int → Prop}
/-- one item or none: nothing is compared -/
theorem sort_few {a : Addr} {n : Nat} {P : PySem.Fin → Shared → Prop} (ho : s.heap.get? a = some (seqObj "list" vs.toArray n)) (h1 : vs.length ≤ 1) (h : P (.done (.ret .none)) { s with heap := sortedHeap s.heap a vs vs.toArray }) :
    wpAny (model prog w) A (Builtin.«list.sort» ⟨[.ref a], []⟩) P E s := by
  refine SK.plain_sort (r := fun _ => 0) ho (by omega) (fun h2 => by omega) fun ps out e1 e2 _ => ?_
  have e3 : out.toList = vs := by
    have z := e2.map Prod.snd
    rw [← e1, List.map_snd_zip (Nat.le_refl _)] at z
    exact perm_one z h1
  have e4 : out = vs.toArray := by rw [← e3]
  rw [e4]
  exact h
theorem sorted_tlist {l : Addr} {Q : Value → Shared → Prop} (hl : s.heap.IsList l vs.toArray) (e : EachIs R vs ks) (er : EachIs (fun v k => ∃ as, Reads s.heap v (tI k) as) vs ks) (hk : okT ks = true) (hL : ks.length ≤ sizeLine) (hu : A.units + 4 < cLine)
    (h : ∀ out, EachIs R out (upT ks) → Q (.ref (s.heap.objs.size + 1)) { s with heap := sortedAll s.heap vs (List.toArray out) }) : wpAny (model prog w) A (call (.builtin "sorted") [.ref l]) Q E s := by
  by_cases h1 : ks.length ≤ 1
  · refine sorted_of_sort hl (by rw [e.length]; exact hL) (args_sorted1 _) (fun _ => args_list_sort _) fun _ => ?_
    refine sort_few (s := { s with heap := copyHeap s.heap vs }) (copyHeap_at s.heap vs) (by rw [e.length]; exact h1) ⟨rfl, h vs ?_⟩
    rw [upT_one h1]
    exact e
  · refine sorted_data (enc := tI) hl e er (AllAlike.of alike_tI) (okT_two hk h1) hL (fun b _ => by have := depth_tI b; omega) fun out _ eo => h out ?_
    rw [dataLe_tups] at eo
    exact eo
end
def IsK (K : PySem.W.Frag) (G : Hp) (v : Value) (k : List Int) : Prop := ∃ x, RelV x v ∧ Dp K G x (tI k)
theorem isK_all {K : PySem.W.Frag} {G : Hp} : ∀ {ws : List V} {us : List Value} {ks : List (List Int)}, DpAll K G ws (ks.map tI) → Vals ws us → EachIs (IsK K G) us ks
  | [], _, [], _, .nil => .nil
  | w :: ws, _, k :: ks, .cons h t, .cons r q => .cons ⟨w, r, h⟩ (isK_all t q)
  | [], _, _ :: _, h, _ => by cases h
  | _ :: _, _, [], h, _ => by cases h
theorem isK_back {K : PySem.W.Frag} {G : Hp} : ∀ {us : List Value} {ks : List (List Int)}, EachIs (IsK K G) us ks → ∃ ws, Vals ws us ∧ DpAll K G ws (ks.map tI)
  | _, _, .nil => ⟨[], .nil, .nil⟩
  | _, _, .cons h t => by
    obtain ⟨x, r, d⟩ := h
    obtain ⟨ws, r2, d2⟩ := isK_back t
    exact ⟨x :: ws, .cons r r2, .cons d d2⟩
theorem isK_reads {X : Cx} {pins : List (Addr × Obj)} {σ : St} {G H : Hp} {s : Shared} (I : Inv X pins σ H s) (sg : Same G H) {us : List Value} {ks : List (List Int)} (e : EachIs (IsK X.K G) us ks) : EachIs (fun v k => ∃ as, Reads s.heap v (tI k) as) us ks :=
  e.mono fun v k ⟨x, r, d⟩ => Dp.reads I _ x v (dp_same sg d) r
section
variable {X : Cx}
/-- sorted(xs), xs a list of tuples of ints -/
def rSortTL (K : PySem.W.Frag) : List V → Hp → VK → Prop := fun vs H Q => ∃ (G : Hp) (a : Addr) (ws : List V) (ks : List (List Int)), Same G H ∧ vs = [.ref a] ∧ SqL K H a ws ∧ DpAll K G ws (ks.map tI) ∧ okT ks = true ∧
  ∀ ys p, DpAll K G ys ((upT ks).map tI) → H p = none → Q (.ref p) (upd H p (.lst ys))
theorem cr_sortTL (hu : X.A.units + 64 < cLine) : CallR X (.builtin "sorted") (rSortTL X.K) := by
  intro pins s σ H vs us Q I r h
  obtain ⟨G, a, ws, ks, sg, rfl, hs, hd, ok, q⟩ := h
  obtain ⟨its, rv, pl, hz⟩ := I.list hs
  rw [Vals.ref1 r]
  have e := isK_all hd rv
  have hl : ks.length ≤ sizeLine := by
    rw [← e.length, ← rv.length]
    exact hz
  refine sorted_tlist pl.isList e (isK_reads I sg e) ok hl (by omega) fun out eo => ?_
  obtain ⟨ys, r2, d2⟩ := isK_back eo
  obtain ⟨c, hat⟩ := sortedAll_at s.heap its out.toArray
  have hl2 : ys.length ≤ sizeLine := by
    rw [dpAll_len d2, List.length_map, (upT_perm ks).length_eq]
    exact hl
  exact ⟨.ref _, upd H (s.heap.objs.size + 1) (.lst ys), I.laid (t' := s.toks) (fun _ _ => sortedAll_old) (Nat.le_succ _) ⟨hl2, out, c, r2, hat⟩, rfl, q ys _ d2 (I.hok.fresh (Nat.le_succ _))⟩
end
end DL
namespace DL
open PySem PySem.Spec PyProof.Rows L2
theorem enumNew1 {v : Value} {ob : Obj} {P : Heap → Prop} (B : Begins v ob P) :
    Meets (Builtin.«enumerate.__new__» ⟨[.type "enumerate", v], []⟩) fun _ R st => P st.heap ∧
      R (.ok (.ret (.ref (st.heap.push ob).objs.size))) { st with heap := (st.heap.push ob).push { cls := .type "enumerate", data := .fields #[.none, .bool false, .ref st.heap.objs.size, rawInt 0, .none, .none] } } :=
  .of_wp fun pr wo Ar R st z => by
    obtain ⟨he, ge, dr, to, oo⟩ := st
    obtain ⟨z1, z2⟩ := z
    have sb := sub_enumerate
    have it1 : ∀ {A' : Around} {E' : Value → Shared → Prop} {Q' : Value → Shared → Prop}, Q' (.ref he.objs.size) ⟨he.push ob, ge, dr, to, oo⟩ → wpAny (model pr wo) A' (pyIter v) Q' E' ⟨he, ge, dr, to, oo⟩ := fun y => B.iter pr wo _ _ ⟨he, ge, dr, to, oo⟩ _ z1 y
    wp_walk using it1
    refine wpAny_stack_any fun sk => wpAny_pure ?_
    split
    · rename_i cc _ _ _ _ _
      cases (cc == Value.type "enumerate") <;> (wp_walk using it1; exact ⟨_, rfl, z2⟩)
    · wp_walk using it1
      exact ⟨_, rfl, z2⟩
theorem enumCall1 {prog : Program} {w : World} {A : Around} {E : Value → Shared → Prop} {s : Shared} {v : Value} {ob : Obj} {P : Heap → Prop} {Q : Value → Shared → Prop} (B : Begins v ob P) (h1 : P s.heap)
    (h : ∀ g, IsEnum g (s.heap.objs.size + 1) s.heap.objs.size 0 .none → g.get? s.heap.objs.size = some ob → (∀ b u, s.heap.get? b = some u → g.get? b = some u) → Q (.ref (s.heap.objs.size + 1)) { s with heap := g }) :
    wpAny (model prog w) A (call (.type "enumerate") [v]) Q E s := by
  refine callType_new F.called_enumerate (by decide) (F.typeCall_enumerate_1 _) (F.newCall_enumerate_1 _) (fun x => F.args_object_init_2 x _) F.entry_enumerate_new (enumNew1 B) ⟨h1, ?_⟩
  have sz : (s.heap.push ob).objs.size = s.heap.objs.size + 1 := Heap.size_push ..
  have old : ∀ b u, s.heap.get? b = some u → ((s.heap.push ob).push { cls := .type "enumerate", data := .fields #[.none, .bool false, .ref s.heap.objs.size, rawInt 0, .none, .none] }).get? b = some u := fun b u y => Heap.get?_push_of_some _ (Heap.get?_push_of_some _ y)
  have en := Heap.get?_push_size (s.heap.push ob) (o := { cls := .type "enumerate", data := .fields #[.none, .bool false, .ref s.heap.objs.size, rawInt 0, .none, .none] }) rfl
  show _ ∧ _
  rw [sz] at en ⊢
  exact ⟨⟨_, en, rfl⟩, h _ en (Heap.get?_push_of_some _ (Heap.get?_push_size _ B.free)) old⟩
/-- the tuple at a, each item in a new pair -/
def ItE (K : PySem.W.Frag) (a : Addr) : It where
  go := fun i H => ∃ xs x, SqT K H a xs ∧ xs[i]? = some x
  yld := fun i H v H' => ∃ T x, v = .ref T ∧ H T = none ∧ H' = upd H T (.tup [.int (i : Nat), x]) ∧ ∀ xs, SqT K H a xs → xs[i]? = some x
  stop := fun i H => ∃ xs : List V, SqT K H a xs ∧ xs.length = i
theorem turn_enumT {P : Program} {w : World} {K : PySem.W.Frag} {elts : List Expr} {kk : Nat} {tpos : Pos} (a e it : Addr) :
    Turn P w K (.Tuple elts kk tpos) (ItE K a) [e, it] e fun i h => (∃ old, IsEnum h e it ((i : Nat) : Int) old) ∧ h.IsTupleIter it a i ∧ e ≠ it ∧ a ≠ it ∧ a ≠ e where
  mem := List.mem_cons_self
  obj := fun i h ⟨⟨old, z1⟩, ⟨o, z2, z3, z4⟩, _⟩ b hb => by
    rcases List.mem_cons.mp hb with y | y
    · subst y
      exact ⟨_, z1, fun v q => nomatch q⟩
    · rw [List.mem_singleton.mp y]
      exact ⟨o, z2, fun v q => by rw [z4] at q; cases q⟩
  keep := fun i h h' ⟨⟨old, z1⟩, z2, z3⟩ k => ⟨⟨old, k e List.mem_cons_self _ z1⟩, z2.at fun o q => k it (List.mem_cons_of_mem _ List.mem_cons_self) o q, z3⟩
  item := by
    intro X e1 e2 e3 hc i pins s σ H E I hf ⟨⟨old, z1⟩, z2, z3, z4, z5⟩ ⟨xs, x, hq, hx⟩
    subst e1 e2 e3
    obtain ⟨its, rv, tp, hz⟩ := I.tuple hq
    obtain ⟨u, hu, ru⟩ := rv.get hx
    have li : i < its.toArray.size := by
      rw [List.size_toArray]
      exact (List.getElem?_eq_some_iff.mp hu).1
    have le : e < s.heap.objs.size := Heap.lt_size z1
    have lt : it < s.heap.objs.size := by
      obtain ⟨_, q, _⟩ := z2
      exact Heap.lt_size q
    have D := Draws.tuple (prog := X.prog) (w := X.w) (A := X.A.in1) (by exact I.ok.hd hc) it a z4 its.toArray
    refine wpAny_pyNext_enum_itemD D z1 ⟨z2, tp⟩ li z3 (by
      intro m
      rcases List.mem_cons.mp m with y | y
      · exact z3 y
      · exact z5 (List.mem_singleton.mp y).symm) fun u2 g tk hu2 eo st gT gs gk => ?_
    have eu : u2 = u := by
      have y : its.toArray[i]? = some u2 := hu2
      rw [List.getElem?_toArray, hu] at y
      exact (Option.some.inj y).symm
    subst eu
    refine ⟨_, rfl, wpAny_letOwnedTupleGo_enum (s := { s with heap := g, toks := tk + 1 }) eo fun g2 eo2 sb => ?_⟩
    have nT : s.heap.objs.size ≠ e := Nat.ne_of_gt le
    have gT2 := (sb.2 _ nT).trans gT
    have new : ObjOk X.prog X.w (upd H s.heap.objs.size (.tup [.int (i : Nat), x])) g2 s.heap.objs.size (.tup [.int (i : Nat), x]) := ⟨by show 2 ≤ sizeLine; decide, [.int i tk, u2], .cons ⟨_, rfl⟩ (.cons ru .nil), ⟨_, gT2, rfl, _, rfl⟩⟩
    have out : ∀ {b : Addr}, b ∉ [e, it] → b ≠ e ∧ b ≠ it := fun {b} m => ⟨fun y => m (by rw [y]; exact List.mem_cons_self), fun y => m (by rw [y]; exact List.mem_cons_of_mem _ List.mem_cons_self)⟩
    have J := I.turnedNew (t' := tk + 1) (ch := [e, it]) (fun b ob m y => (sb.2 b (out m).1).trans (gk b ob (out m).1 (out m).2 y)) hf (Nat.le_refl _) new
    refine ⟨.ref s.heap.objs.size, _, J, rfl, ⟨_, x, rfl, I.hok.fresh (Nat.le_refl _), rfl, fun ys hy => by rw [I.tuple_inj hy hq]; exact hx⟩, ⟨⟨u2, ?_⟩, st.1.at fun o q => (sb.2 it z3.symm).trans q, z3, z4, z5⟩, fun b m => ?_⟩
    · rw [show (((i + 1 : Nat) : Nat) : Int) = (i : Int) + 1 by omega]
      exact eo2
    · have lb : b < s.heap.objs.size := by
        rcases List.mem_cons.mp m with y | y
        · rw [y]; exact le
        · rw [List.mem_singleton.mp y]; exact lt
      rw [upd_ne (Nat.ne_of_lt lb)]
      exact (hf b m).1
  done := by
    intro X e1 e2 e3 hc i pins s σ H E I hf ⟨⟨old, z1⟩, z2, z3, z4, z5⟩ ⟨xs, hq, hx⟩
    subst e1 e2 e3
    obtain ⟨its, rv, tp, hz⟩ := I.tuple hq
    have le : e < s.heap.objs.size := Heap.lt_size z1
    have D := Draws.tuple (prog := X.prog) (w := X.w) (A := X.A.in1) (by exact I.ok.hd hc) it a z4 its.toArray
    obtain ⟨f0, f1, f2, f3, f4, f5⟩ := hf it (List.mem_cons_of_mem _ List.mem_cons_self)
    have big : its.toArray.size = i := by
      rw [List.size_toArray, ← rv.length]
      exact hx
    rw [← big] at z2
    exact wpAny_pyNext_enum_endD D z1 ⟨z2, tp⟩ fun g eb => ⟨rfl, I.turned (t' := s.toks) (fun b o m y => eb b o m y) f0 f1 f3 f4 f5⟩
  self := fun A i s Q E ⟨⟨_, z⟩, _⟩ h => wpAny_pyIter_enum z h
def iEnumT (K : PySem.W.Frag) (ta : TA) : TI := fun σ H R => ta σ H fun vs H1 => ∃ a xs, vs = [.ref a] ∧ SqT K H1 a xs ∧ R (ItE K a) H1
theorem pi_enumT {X : Cx} {e : Expr} {ta : TA} {p pos tpos : Pos} {elts : List Expr} {kk : Nat} (hg : Gl X "enumerate") (hm : X.mg "enumerate" = none) (ha : PA X [e] ta) (hs : starEach [e] X.env = [(false, eval e X.env)] := by rfl) :
    PI X (.Tuple elts kk tpos) (.Call (.Name "enumerate" p) [e] [] pos) (iEnumT X.K ta) := by
  refine ⟨fun pins s σ H R I h => Call_ (ld_blt I hg hm boot_enumerate (callWith_type1 (thn (ha.run pos pins s σ H _ I h) fun us s1 z => ?_) hs rfl))⟩
  obtain ⟨vs, H1, I1, r1, a, xs, rfl, hq, q⟩ := z
  rw [Vals.ref1 r1]
  obtain ⟨its, rv, tp, hz⟩ := I1.tuple hq
  have la : a < s1.heap.objs.size := by
    obtain ⟨o, ho, _⟩ := tp
    exact Heap.lt_size ho
  refine enumCall1 (begins_tuple a its.toArray) tp fun g z1 z2 z3 => wpAny_pyIter_enum z1 ?_
  have nn : ∀ b ∈ [s1.heap.objs.size + 1, s1.heap.objs.size], s1.heap.objs.size ≤ b := fun b m => by
    rcases List.mem_cons.mp m with y | y
    · omega
    · rw [List.mem_singleton.mp y]
      exact Nat.le_refl _
  exact ⟨_, _, _, _, H1, rfl, I1.kept (t' := s1.toks) z3, turn_enumT a (s1.heap.objs.size + 1) s1.heap.objs.size, ⟨⟨.none, z1⟩, ⟨_, z2, rfl, rfl⟩, Nat.succ_ne_self _, Nat.ne_of_lt la, Nat.ne_of_lt (Nat.lt_succ_of_lt la)⟩, fun b m => I1.fpOk (nn b m) (I1.hok.fresh (nn b m)), q⟩
def enumD (ds : List PyData) : List PyData := (List.range ds.length).zipWith (fun (i : Nat) d => PyData.tuple [.int (i : Int), d]) ds
theorem enumD_at {ds : List PyData} {i : Nat} {d : PyData} (h : (enumD ds)[i]? = some d) : ∃ x, ds[i]? = some x ∧ d = .tuple [.int (i : Int), x] := by
  unfold enumD at h
  rw [List.getElem?_zipWith] at h
  cases z1 : (List.range ds.length)[i]? with
  | none => rw [z1] at h; cases h
  | some j =>
    cases z2 : ds[i]? with
    | none => rw [z1, z2] at h; cases h
    | some x =>
      rw [z1, z2] at h
      obtain ⟨y1, y2⟩ := List.getElem?_eq_some_iff.mp z1
      rw [List.getElem_range] at y2
      subst y2
      cases h
      exact ⟨x, rfl, rfl⟩
theorem enumD_len {ds : List PyData} : (enumD ds).length = ds.length := by
  unfold enumD
  rw [List.length_zipWith, List.length_range, Nat.min_self]
section
variable {K : PySem.W.Frag} {G0 : Hp} {a : Addr} {xs : List V} {ds : List PyData}
theorem walk_enumT (h : SqT K G0 a xs) (q : DpAll K G0 xs ds) : WalkD K G0 (ItE K a) (enumD ds) := by
  intro G H s1 s2
  have hq : SqT K H a xs := seqT (s1.trans s2) h
  refine ⟨fun i d e => ?_, xs, hq, by rw [enumD_len, dpAll_len q]⟩
  obtain ⟨x, e1, rfl⟩ := enumD_at e
  obtain ⟨v, e2, e3⟩ := dpAll_get q e1
  refine ⟨⟨xs, v, hq, e2⟩, fun u H2 ⟨T, y, z1, z2, z3, z4⟩ => .inr ⟨T, [.int (i : Nat), y], _, z1, z2, z3, rfl, ?_⟩⟩
  have z5 := z4 xs hq
  rw [e2] at z5
  cases z5
  exact .cons (.int _) (.cons (dp_same s1 e3) .nil)
theorem walk_enumL (h : SqL K G0 a xs) (q : DpAll K G0 xs ds) : WalkD K G0 (Ite K a) (enumD ds) := by
  intro G H s1 s2
  have hq : SqL K H a xs := (s1.trans s2).seq h
  refine ⟨fun i d e => ?_, xs, hq, by rw [enumD_len, dpAll_len q]; exact Nat.le_refl _⟩
  obtain ⟨x, e1, rfl⟩ := enumD_at e
  obtain ⟨v, e2, e3⟩ := dpAll_get q e1
  refine ⟨⟨xs, v, hq, e2⟩, fun u H2 ⟨T, y, z1, z2, z3, z4⟩ => .inr ⟨T, [.int (i : Nat), y], _, z1, z2, z3, rfl, ?_⟩⟩
  have z5 := z4 xs hq
  rw [e2] at z5
  cases z5
  exact .cons (.int _) (.cons (dp_same s1 e3) .nil)
end
def i_enum (f : Fe) : Fi := fun e => match i_seq f e with
  | some (ds, e1) => some (enumD ds, e1)
  | none => none
theorem id_enum {X : Cx} {a : Expr} {fa : Fe} {pos p tpos : Pos} {elts : List Expr} {kk : Nat} (ha : ED X a fa) (hm : X.mg "enumerate" = none) (hg : Gl X "enumerate" := by rfl) (hs : starEach [a] X.env = [(false, eval a X.env)] := by rfl) :
    ID X (.Tuple elts kk tpos) (.Call (.Name "enumerate" p) [a] [] pos) (i_enum fa) := by
  obtain ⟨t, pa, k⟩ := ha
  refine ⟨_, pi_or (pi_enum hg hm (pa_cons pa pa_nil hs) hs) (pi_enumT hg hm (pa_cons pa pa_nil hs) hs), fun m E G0 G e σ H ds e' Q R q P => ?_⟩
  unfold i_enum at q
  cases h1 : i_seq fa e with
  | none => rw [h1] at q; cases q
  | some z =>
    obtain ⟨ds0, e1⟩ := z
    rw [h1] at q
    cases q
    obtain ⟨r, q1, q2⟩ := i_seq_ok h1
    rcases q2 with q2 | q2
    · refine .inl (k m E G0 G e σ H r _ _ R q1 fun v G1 H1 R1 S1 V1 N1 => ?_)
      obtain ⟨G2, R2, S2, s2, V2⟩ := R1.freeze S1 V1 N1
      rw [q2] at V2
      have V3 : Dp X.K G2 v (.list ds0) := V2
      cases V3 with
      | lst h z => exact ⟨_, _, rfl, R2.gh.seq h, P _ _ _ R2 S2 (walk_enumL h z)⟩
    · refine .inr (k m E G0 G e σ H r _ _ R q1 fun v G1 H1 R1 S1 V1 N1 => ?_)
      obtain ⟨G2, R2, S2, s2, V2⟩ := R1.freeze S1 V1 N1
      rw [q2] at V2
      have V3 : Dp X.K G2 v (.tuple ds0) := V2
      cases V3 with
      | tup h z => exact ⟨_, _, rfl, seqT R2.gh h, P _ _ _ R2 S2 (walk_enumT h z)⟩
end DL
namespace DL
open PySem PySem.Spec PySem.W PyProof.Rows L2
def c_intsT (g : List Int → Option Rs) : List PyData → Option Rs
  | [.tuple ds] => (match unI ds with
    | some ns => g ns
    | none => none)
  | _ => none
theorem intsT_ok {g : List Int → Option Rs} {ds : List PyData} {r : Rs} (q : c_intsT g ds = some r) : ∃ ns, ds = [.tuple (ns.map PyData.int)] ∧ g ns = some r := by
  unfold c_intsT at q
  split at q
  · rename_i es
    split at q
    · rename_i ns h
      rw [unI_ok h]
      exact ⟨ns, rfl, q⟩
    · cases q
  · cases q
section
variable {K : PySem.W.Frag}
theorem lv_intsT {G H : Hp} {vs : List V} {ns : List Int} (s : Same G H) (l : LvAll K G H vs [.tuple (ns.map PyData.int)]) : ∃ p, vs = [.ref p] ∧ SqT K H p (ns.map V.int) := by
  obtain ⟨v, rfl, lv⟩ := lv1 l
  obtain ⟨p, ws, rfl, s1, k⟩ := lv.tup s
  rw [dp_ints k] at s1
  exact ⟨p, rfl, s1⟩
end
def unT : List PyData → Option (List (List Int))
  | [] => some []
  | .tuple d :: ds => (match unI d, unT ds with
    | some k, some ks => some (k :: ks)
    | _, _ => none)
  | _ :: _ => none
theorem unT_ok : ∀ {ds : List PyData} {ks : List (List Int)}, unT ds = some ks → ds = ks.map tI
  | [], ks, h => by
    cases h
    rfl
  | d :: ds, ks, h => by
    unfold unT at h
    split at h
    · rename_i z
      cases z
    · rename_i d0 ds0 z
      cases z
      split at h
      · rename_i k ks0 h1 h2
        cases h
        rw [unI_ok h1, unT_ok h2]
        rfl
      · cases h
    · cases h
theorem unT_map : ∀ (ks : List (List Int)), unT (ks.map tI) = some ks
  | [] => rfl
  | k :: ks => by
    have e : ∀ (k : List Int), unI (k.map PyData.int) = some k := by
      intro k
      induction k with
      | nil => rfl
      | cons i k ih =>
        show (unI (k.map PyData.int)).map (i :: ·) = _
        rw [ih]
        rfl
    show (match unI (k.map PyData.int), unT (ks.map tI) with
      | some k, some ks => some (k :: ks)
      | _, _ => none) = _
    rw [e, unT_map ks]
def c_sortedT : List PyData → Option Rs
  | [.list ds] => (match unT ds with
    | some ks => if okT ks = true then some (.ac ((upT ks).map tI)) else none
    | none => none)
  | _ => none
theorem vc_sortedT {K : PySem.W.Frag} : VC K (rSortTL K) c_sortedT := by
  intro m E G0 G e σ H vs ds rr Q R l q P
  unfold c_sortedT at q
  split at q
  · rename_i es
    split at q
    · rename_i ks h
      by_cases ok : okT ks = true
      · rw [if_pos ok] at q
        cases q
        rw [unT_ok h] at l
        obtain ⟨v, rfl, lv⟩ := lv1 l
        obtain ⟨p, ws, rfl, s1, k⟩ := lv.list R.gh
        refine ⟨G, p, ws, ks, R.gh, rfl, s1, k, ok, fun ys p2 d hp => ?_⟩
        obtain ⟨R', S', V', N'⟩ := R.newL hp d
        exact P _ _ _ R' S' V' N'
      · rw [if_neg ok] at q
        cases q
    · cases q
  · cases q
def c_sortedA : List PyData → Option Rs := orC c_sortedI c_sortedT
theorem vc_sortedA {K : PySem.W.Frag} : VC K (fun vs H Q => rSortedI K vs H Q ∨ rSortTL K vs H Q) c_sortedA := VC.or vc_sortedI vc_sortedT
theorem cr_sortedA {X : Cx} (hu : X.A.units + 64 < cLine) : CallR X (.builtin "sorted") (fun vs H Q => rSortedI X.K vs H Q ∨ rSortTL X.K vs H Q) := CallR.or cr_sortedI (cr_sortTL hu)
end DL
namespace DL
open PySem PySem.Spec PySem.W PyProof.Rows L2 Calls
end DL
namespace DL
open PySem PySem.Spec PySem.W PyProof.Rows L2 Calls
end DL
namespace DL
open PySem PySem.Spec PySem.W PyProof.Rows L2
/-- fuel for a loop that goes down by the int in a slot -/
def fuI (j : Nat) (e : Ev) : Nat := match e[j]? with
  | some (some (.im (.int i))) => i.toNat + 1
  | _ => 0
/-- a def under its name, every parameter written -/
theorem kfN {P : Program} {w : World} {K : PySem.W.Frag} {mg : Str → Option Value} {base : Heap} {x qual : Str} {params : Arguments} {body : List Stmt} {scope : Scope} {kws : List (Str × V)} {f : Addr} {fd : FuncData} {k : Nat} {sp : Sp} {ps : List Str}
    (F : FunD K x qual params body scope [] kws f fd) (ok : FnOk P w K mg base CX0 k f fd ps sp) (g : mg x = some (.ref f))
    (h : ∀ (kV doc pm : Value) (an : Option Addr) (cdv ct : Value) (us : List Value), us.length = ps.length → bindArgs (PySem.W.fnOf x qual params body scope .none kV doc pm an cdv ct) ⟨us, []⟩ = pure (ps.zip us)) : Kf P w K mg base k x sp [] :=
  ⟨f, fd, ps, [], ok, g, F.kp, F.bindsN h, .nil⟩
end DL
namespace DL
open PySem PySem.Spec PySem.W PyProof.Rows L2
def nD (n : Nat) : PyData := .int (n : Int)
section
variable {i j : Int}
theorem e_add : p_add (.int i) (.int j) = some (.im (.int (i + j))) := rfl
theorem e_sub : p_sub (.int i) (.int j) = some (.im (.int (i - j))) := rfl
theorem e_eq : p_eq (.int i) (.int j) = some (.im (.bool (decide (i = j)))) := by
  show some (Rs.im (.bool (i == j))) = _
  rw [Bool.beq_eq_decide_eq]
theorem e_mod (h : 0 < j) : p_mod (.int i) (.int j) = some (.im (.int (i % j))) := by
  show ((if decide (0 < j) = true then some (PyData.int (i % j)) else none).map Rs.im) = _
  rw [if_pos (decide_eq_true h)]
  rfl
theorem e_divW (h : 0 < j) (h2 : j.natAbs.log2 < 9000) : p_div (.int i) (.int j) = some (.im (.int (i / j))) := by
  show ((if divC i j = true then some (PyData.int (i / j)) else none).map Rs.im) = _
  rw [show divC i j = true from decide_eq_true ⟨h, h2⟩]
  rfl
theorem log_few {j : Int} (h : 0 < j) (h2 : j < 1073741824) : j.natAbs.log2 < 9000 := Nat.lt_trans ((Nat.log2_lt (by omega)).mpr (show j.natAbs < 2 ^ 30 by omega)) (by decide)
theorem e_div (h : 0 < j) (h2 : j < 1073741824) : p_div (.int i) (.int j) = some (.im (.int (i / j))) := e_divW h (log_few h h2)
theorem e_mul (h : (-18446744073709551616 < i ∧ i < 18446744073709551616) ∨ (-18446744073709551616 < j ∧ j < 18446744073709551616)) : p_mul (.int i) (.int j) = some (.im (.int (i * j))) := by
  unfold p_mul orF
  have e : (d_int2 (fun i j => .int (i * j)) mulC (.int i) (.int j)).map Rs.im = some (.im (.int (i * j))) := by
    show ((if mulC i j = true then some (PyData.int (i * j)) else none).map Rs.im) = _
    rw [show mulC i j = true from decide_eq_true h]
    rfl
  simp only [e]
end
theorem okLen_yes {n : Nat} (h : n ≤ 16777216) : okLen n = true := decide_eq_true h
theorem e_cat {a b : List PyData} (h : a.length + b.length ≤ 16777216) : p_add (.list a) (.list b) = some (.ac (a ++ b)) := by
  show orF _ (orF q_cat q_catT) (.list a) (.list b) = _
  have e : q_cat (.list a) (.list b) = some (.ac (a ++ b)) := if_pos (okLen_yes h)
  simp only [orF, d_int2, Option.map_none, e]
theorem e_catT {a b : List PyData} (h : a.length + b.length ≤ 16777216) : p_add (.tuple a) (.tuple b) = some (.im (.tuple (a ++ b))) := by
  show orF _ (orF q_cat q_catT) (.tuple a) (.tuple b) = _
  have e : q_catT (.tuple a) (.tuple b) = some (.im (.tuple (a ++ b))) := if_pos (okLen_yes h)
  simp only [orF, d_int2, Option.map_none, q_cat, e]
theorem e_eqB {a b : Bool} : p_eq (.bool a) (.bool b) = some (.im (.bool (decide (a = b)))) := by
  cases a <;> cases b <;> rfl
theorem atI_nat {α : Type} (ds : List α) (j : Nat) : atI ds (j : Int) = ds[j]? := by
  unfold atI ixN
  rw [if_pos (by omega)]
  by_cases h : j < ds.length
  · rw [if_pos (by omega)]
    simp
  · rw [if_neg (by omega), List.getElem?_eq_none (by omega)]
    rfl
def iN (l : List Nat) : List Int := l.map fun (n : Nat) => (n : Int)
theorem iN_inj {l m : List Nat} : iN l = iN m ↔ l = m := by
  unfold iN
  constructor
  · intro h
    induction l generalizing m with
    | nil =>
      cases m with
      | nil => rfl
      | cons a m => cases h
    | cons a l ih =>
      cases m with
      | nil => cases h
      | cons b m =>
        rw [List.map_cons, List.map_cons] at h
        injection h with h1 h2
        rw [ih h2, Int.ofNat_inj.mp h1]
  · intro h
    rw [h]
theorem unI_ints : ∀ (ns : List Int), unI (ns.map PyData.int) = some ns
  | [] => rfl
  | n :: ns => by
    show (unI (ns.map PyData.int)).map (n :: ·) = _
    rw [unI_ints ns]
    rfl
theorem rest_wipe (e : Ev) (vs : List Nat) : restE e (wipeE e vs) vs = e := by
  refine List.ext_getElem? fun j => ?_
  by_cases h : j ∈ vs
  · rw [restE_in (wipeE_len vs) h]
  · rw [restE_out h, wipeE_out h]
end DL
namespace DL
open PySem PySem.Spec PySem.W PyProof.Rows L2
theorem r_x_var (i : Nat) (e : Ev) : x_var i e = (match e[i]? with
  | some (some (.im d)) => some (.im d, e)
  | some (some (.ac _)) => some (.br i, e)
  | _ => none) := of_eq_true (eq_self _)
theorem r_two (fa fb : Fe) (e : Ev) : two fa fb e = (match fa e with
  | some (ra, e1) => (match fb e1 with
    | some (rb, e2) => some (frzR ra, frzR rb, e2)
    | none => none)
  | none => none) := of_eq_true (eq_self _)
theorem r_x_bin (φ : PyData → PyData → Option Rs) (fa fb : Fe) (e : Ev) : x_bin φ fa fb e = (match two fa fb e with
  | some p => (match look2 p with
    | some (a, b, e2) => (match φ a b with
      | some r => some (r, e2)
      | none => none)
    | none => none)
  | none => none) := of_eq_true (eq_self _)
theorem r_t_of (f : Fe) (e : Ev) : t_of f e = (match f e with
  | some (.im (.bool b), e1) => some (b, e1)
  | _ => none) := of_eq_true (eq_self _)
theorem r_t_not (f : Ft) (e : Ev) : t_not f e = (match f e with
  | some (b, e1) => some (!b, e1)
  | none => none) := of_eq_true (eq_self _)
theorem r_t_or (f g : Ft) (e : Ev) : t_or f g e = (match f e with
  | some (true, e1) => some (true, e1)
  | some (false, e1) => g e1
  | none => none) := of_eq_true (eq_self _)
theorem r_x_and (f g : Fe) (e : Ev) : x_and f g e = (match f e with
  | some (.im (.bool true), e1) => g e1
  | some (.im (.bool false), e1) => some (.im (.bool false), e1)
  | _ => none) := of_eq_true (eq_self _)
theorem r_x_not (f : Fe) (e : Ev) : x_not f e = (match f e with
  | some (.im (.bool b), e1) => some (.im (.bool !b), e1)
  | _ => none) := of_eq_true (eq_self _)
theorem r_x_if (c : Ft) (f g : Fe) (e : Ev) : x_if c f g e = (match c e with
  | some (true, e1) => f e1
  | some (false, e1) => g e1
  | none => none) := of_eq_true (eq_self _)
theorem r_a_cons (fa : Fe) (fr : Fa) (e : Ev) : a_cons fa fr e = (match fa e with
  | some (r, e1) => (match fr e1 with
    | some (rs, e2) => some (frzR r :: rs, e2)
    | none => none)
  | none => none) := of_eq_true (eq_self _)
theorem r_argsD (fa : Fa) (e : Ev) : argsD fa e = (match fa e with
  | some (rs, e1) => (match lookAll e1 rs with
    | some ds => some (ds, e1)
    | none => none)
  | none => none) := of_eq_true (eq_self _)
theorem r_argsI (fa : Fa) (e : Ev) : argsI fa e = (match fa e with
  | some (rs, e1) => (match imAll rs with
    | some ds => some (ds, e1)
    | none => none)
  | none => none) := of_eq_true (eq_self _)
theorem r_x_tup (fa : Fa) (e : Ev) : x_tup fa e = (match argsI fa e with
  | some (ds, e1) => if okLen ds.length = true then some (.im (.tuple ds), e1) else none
  | none => none) := of_eq_true (eq_self _)
theorem r_x_lst (fa : Fa) (e : Ev) : x_lst fa e = (match argsI fa e with
  | some (ds, e1) => if okLen ds.length = true then some (.ac ds, e1) else none
  | none => none) := of_eq_true (eq_self _)
theorem r_x_rep (fa : Fa) (fb : Fe) (e : Ev) : x_rep fa fb e = (match argsI fa e with
  | some (ds, e1) => (match fb e1 with
    | some (.im (.int k), e2) => if (okLen ds.length && (decide (-9223372036854775808 ≤ k ∧ k < 9223372036854775808) && okLen (ds.length * k.toNat))) = true then some (.ac (List.replicate k.toNat ds).flatten, e2) else none
    | _ => none)
  | none => none) := of_eq_true (eq_self _)
theorem r_o_at (f : Fe) (e : Ev) : o_at f e = (match f e with
  | some (.im (.int i), e1) => some (some i, e1)
  | _ => none) := of_eq_true (eq_self _)
theorem r_x_sl (fa : Fe) (fl fh : Fo) (e : Ev) : x_sl fa fl fh e = (match fa e with
  | some (r, e1) => (match fl e1 with
    | some (lo, e2) => (match fh e2 with
      | some (hi, e3) => (match lookR e3 (frzR r) with
        | some d => (match sliced lo hi d with
          | some r2 => some (r2, e3)
          | none => none)
        | none => none)
      | none => none)
    | none => none)
  | none => none) := of_eq_true (eq_self _)
theorem r_x_neg (fa : Fe) (e : Ev) : x_neg fa e = (match fa e with
  | some (.im (.int i), e1) => some (.im (.int (-i)), e1)
  | _ => none) := of_eq_true (eq_self _)
theorem r_x_cb (φ : List PyData → Option Rs) (fa : Fa) (e : Ev) : x_cb φ fa e = (match argsD fa e with
  | some (ds, e1) => (match φ ds with
    | some r => some (r, e1)
    | none => none)
  | none => none) := of_eq_true (eq_self _)
theorem r_x_isi (T : Ty) (f : Fe) (e : Ev) : x_isi T f e = (match f e with
  | some (r, e1) => (match lookR e1 (frzR r) with
    | some d => (match isD T d with
      | some b => some (.im (.bool b), e1)
      | none => none)
    | none => none)
  | none => none) := of_eq_true (eq_self _)
theorem r_i_seq (f : Fe) (e : Ev) : i_seq f e = (match f e with
  | some (r, e1) => (match frzR r with
    | .im (.list ds) => some (ds, e1)
    | .im (.tuple ds) => some (ds, e1)
    | _ => none)
  | none => none) := of_eq_true (eq_self _)
theorem r_i_rng1 (fa : Fe) (e : Ev) : i_rng1 fa e = (match fa e with
  | some (.im (.int j), e1) => if rgC j = true then some (rngD 0 j.toNat 1, e1) else none
  | _ => none) := of_eq_true (eq_self _)
theorem r_i_rng2 (fa fb : Fe) (e : Ev) : i_rng2 fa fb e = (match fa e with
  | some (.im (.int i), e1) => (match fb e1 with
    | some (.im (.int j), e2) => if (rgC i && rgC j) = true then some (rngD i (j - i).toNat 1, e2) else none
    | _ => none)
  | _ => none) := of_eq_true (eq_self _)
theorem r_s_seq (f g : Fs) (e : Ev) : s_seq f g e = (match f e with
  | some (.nx e1) => g e1
  | some x => some x
  | none => none) := of_eq_true (eq_self _)
theorem r_s_drop (f : Fe) (e : Ev) : s_drop f e = (match f e with
  | some (_, e1) => some (.nx e1)
  | none => none) := of_eq_true (eq_self _)
theorem r_s_ret (f : Fe) (e : Ev) : s_ret f e = (match f e with
  | some (r, e1) => some (.rt r e1)
  | none => none) := of_eq_true (eq_self _)
theorem r_s_if (c : Ft) (f g : Fs) (e : Ev) : s_if c f g e = (match c e with
  | some (true, e1) => f e1
  | some (false, e1) => g e1
  | none => none) := of_eq_true (eq_self _)
theorem r_s_set (i : Nat) (f : Fe) (e : Ev) : s_set i f e = (match f e with
  | some (r, e1) => if okS [i] e1 = true then (match putA i e1 r with
    | some e2 => some (.nx e2)
    | none => none) else none
  | none => none) := of_eq_true (eq_self _)
theorem r_s_for (fi : Fi) (γ : PyData → Ev → Option Ev) (S : List Nat) (fb : Fs) (e : Ev) : s_for fi γ S fb e = (match fi e with
  | some (ds, e1) => forGo γ S fb ds e1
  | none => none) := of_eq_true (eq_self _)
theorem r_x_app (i : Nat) (fa : Fe) (e : Ev) : x_app i fa e = (if isAc e[i]? = true then (match fa e with
  | some (r, e1) => (match imR (frzR r), e1[i]? with
    | some d, some (some (.ac ds)) => if okLen (ds.length + 1) = true then some (.im .none, e1.set i (some (.ac (ds ++ [d])))) else none
    | _, _ => none)
  | none => none) else none) := of_eq_true (eq_self _)
theorem r_x_call (φ : List PyData → Option Rs) (dds : List PyData) (fa : Fa) (e : Ev) : x_call φ dds fa e = (match argsI fa e with
  | some (ds, e1) => (match φ (ds ++ dds) with
    | some (.im d) => some (.im d, e1)
    | some (.ac cs) => some (.ac cs, e1)
    | _ => none)
  | none => none) := of_eq_true (eq_self _)
theorem r_i_enum (f : Fe) (e : Ev) : i_enum f e = (match i_seq f e with
  | some (ds, e1) => some (enumD ds, e1)
  | none => none) := of_eq_true (eq_self _)
theorem r_s_setF (i : Nat) (f : Fe) (e : Ev) : s_setF i f e = (match f e with
  | some (r, e1) => if okS [i] e1 = true then (match putA i e1 (frzR r) with
    | some e2 => some (.nx e2)
    | none => none) else none
  | none => none) := by
  unfold s_setF s_set
  cases h : f e with
  | none => simp only [h]
  | some z => simp only [h] <;> rfl
end DL
namespace DL
open PySem PySem.Spec PySem.W PyProof.Rows L2
section
variable {f g : Fs} {e e1 : Ev} {r : Rs} {o : Option Fl} {x : Fe} {ds : List PyData} {fi : Fi} {γ : PyData → Ev → Option Ev} {S : List Nat} {fb : Fs} {c : Ft} {b : Bool} {n nl : Nat} {r' : Rs}
theorem ifT (h : c e = some (true, e1)) (k : f e1 = o) : s_if c f g e = o := by
  rw [r_s_if, h]
  exact k
theorem ifF (h : c e = some (false, e1)) (k : g e1 = o) : s_if c f g e = o := by
  rw [r_s_if, h]
  exact k
theorem sf (h : fi e = some (ds, e1)) (k : forGo γ S fb ds e1 = o) : s_for fi γ S fb e = o := by
  rw [r_s_for, h]
  exact k
theorem ret (h : x e = some (r, e1)) : s_ret x e = some (.rt r e1) := by
  rw [r_s_ret, h]
theorem setF {i : Nat} {d : PyData} (h : x e = some (r, e1)) (ok : okS [i] e1 = true) (hr : frzR r = .im d) : s_setF i x e = some (.nx (e1.set i (some (.im d)))) := by
  rw [r_s_setF, h]
  simp only [ok, hr, putA]
  rfl
theorem setX {i : Nat} {e2 : Ev} (h : x e = some (r, e1)) (ok : okS [i] e1 = true) (hr : putA i e1 r = some e2) : s_set i x e = some (.nx e2) := by
  rw [r_s_set, h]
  simp only [ok, hr]
  rfl
theorem drop (h : x e = some (r, e1)) : s_drop x e = some (.nx e1) := by
  rw [r_s_drop, h]
theorem iseqA (h : x e = some (.ac ds, e1)) : i_seq x e = some (ds, e1) := by
  simp [r_i_seq, h, frzR]
theorem iseqL (h : x e = some (.im (.list ds), e1)) : i_seq x e = some (ds, e1) := by
  simp [r_i_seq, h, frzR]
theorem iseqT (h : x e = some (.im (.tuple ds), e1)) : i_seq x e = some (ds, e1) := by
  simp [r_i_seq, h, frzR]
theorem bang (h : x e = some (.im (.bool b), e1)) : t_of x e = some (b, e1) := by
  rw [r_t_of, h]
end
theorem callI {φ : List PyData → Option Rs} {dds ds ds' : List PyData} {fa : Fa} {e e1 : Ev} {d : PyData} (ha : argsI fa e = some (ds, e1)) (hd : ds ++ dds = ds') (h : φ ds' = some (.im d)) : x_call φ dds fa e = some (.im d, e1) := by
  rw [r_x_call, ha]
  simp only [hd, h]
theorem callA {φ : List PyData → Option Rs} {dds ds ds' cs : List PyData} {fa : Fa} {e e1 : Ev} (ha : argsI fa e = some (ds, e1)) (hd : ds ++ dds = ds') (h : φ ds' = some (.ac cs)) : x_call φ dds fa e = some (.ac cs, e1) := by
  rw [r_x_call, ha]
  simp only [hd, h]
theorem a0 {e : Ev} : argsI a_nil e = some ([], e) := rfl
theorem aI {f : Fe} {fa : Fa} {e e1 e2 : Ev} {d : PyData} {ds : List PyData} (h : f e = some (.im d, e1)) (k : argsI fa e1 = some (ds, e2)) : argsI (a_cons f fa) e = some (d :: ds, e2) := by
  rw [r_argsI] at k ⊢
  rw [r_a_cons, h]
  cases z : fa e1 with
  | none => rw [z] at k; cases k
  | some p =>
    obtain ⟨rs, e3⟩ := p
    rw [z] at k
    cases y : imAll rs with
    | none => simp only [y] at k; cases k
    | some es =>
      simp only [y, Option.some.injEq, Prod.mk.injEq] at k
      obtain ⟨rfl, rfl⟩ := k
      simp only [z, imAll, frzR, imR, y]
theorem aA {f : Fe} {fa : Fa} {e e1 e2 : Ev} {cs : List PyData} {ds : List PyData} (h : f e = some (.ac cs, e1)) (k : argsI fa e1 = some (ds, e2)) : argsI (a_cons f fa) e = some (.list cs :: ds, e2) := by
  rw [r_argsI] at k ⊢
  rw [r_a_cons, h]
  cases z : fa e1 with
  | none => rw [z] at k; cases k
  | some p =>
    obtain ⟨rs, e3⟩ := p
    rw [z] at k
    cases y : imAll rs with
    | none => simp only [y] at k; cases k
    | some es =>
      simp only [y, Option.some.injEq, Prod.mk.injEq] at k
      obtain ⟨rfl, rfl⟩ := k
      simp only [z, imAll, frzR, imR, y]
theorem vI {i : Nat} {e : Ev} {d : PyData} (h : e[i]? = some (some (.im d))) : x_var i e = some (.im d, e) := by
  rw [r_x_var, h]
theorem cI {d : PyData} {e : Ev} : x_c d e = some (.im d, e) := rfl
theorem tnot {f : Ft} {e e1 : Ev} {b : Bool} (h : f e = some (b, e1)) : t_not f e = some (!b, e1) := by
  rw [r_t_not, h]
theorem rngD0 (m : Nat) : rngD 0 m 1 = (List.range m).map nD := by
  unfold rngD
  refine List.map_congr_left fun k _ => ?_
  unfold nD
  congr 1
  omega
theorem i_rng1_at {fa : Fe} {e e1 : Ev} {m : Nat} (h1 : fa e = some (.im (.int (m : Int)), e1)) (hm : m ≤ 1000000) : i_rng1 fa e = some ((List.range m).map nD, e1) := by
  rw [r_i_rng1, h1]
  have c : rgC (m : Int) = true := decide_eq_true (by omega)
  simp only [c, if_true]
  rw [show (m : Int).toNat = m by omega, rngD0]
end DL
namespace DL
open PySem PySem.Spec PyProof.Rows L2
/-- the values in the order of the parameters -/
def perm {α : Type} (π : List Nat) (xs : List α) : List α := π.filterMap fun i => xs[i]?
theorem vals_get : ∀ {vs : List V} {us : List Value} (i : Nat), Vals vs us → (∃ v u, vs[i]? = some v ∧ us[i]? = some u ∧ RelV v u) ∨ (vs[i]? = none ∧ us[i]? = none)
  | _, _, _, .nil => .inr ⟨rfl, rfl⟩
  | _, _, 0, .cons h _ => .inl ⟨_, _, rfl, rfl, h⟩
  | _, _, i + 1, .cons _ t => by simpa using vals_get i t
theorem vals_perm {vs : List V} {us : List Value} (h : Vals vs us) : ∀ π : List Nat, Vals (perm π vs) (perm π us)
  | [] => .nil
  | i :: π => by
    unfold perm
    rcases vals_get i h with ⟨v, u, h1, h2, h3⟩ | ⟨h1, h2⟩
    · rw [List.filterMap_cons_some h1, List.filterMap_cons_some h2]
      exact .cons h3 (vals_perm h π)
    · rw [List.filterMap_cons_none h1, List.filterMap_cons_none h2]
      exact vals_perm h π
theorem vals_app : ∀ {vs zs : List V} {us ws : List Value}, Vals vs us → Vals zs ws → Vals (vs ++ zs) (us ++ ws)
  | _, _, _, _, .nil, q => q
  | _, _, _, _, .cons h t, q => .cons h (vals_app t q)
theorem dpAll_perm {K : PySem.W.Frag} {G : Hp} {vs : List V} {ds : List PyData} (h : DpAll K G vs ds) : ∀ π : List Nat, DpAll K G (perm π vs) (perm π ds)
  | [] => .nil
  | i :: π => by
    unfold perm
    cases h1 : ds[i]? with
    | some d =>
      obtain ⟨v, h2, h3⟩ := dpAll_get h h1
      rw [List.filterMap_cons_some h1, List.filterMap_cons_some h2]
      exact .cons h3 (dpAll_perm h π)
    | none =>
      have h2 : vs[i]? = none := by
        rw [List.getElem?_eq_none_iff] at h1 ⊢
        rw [dpAll_len h]
        exact h1
      rw [List.filterMap_cons_none h1, List.filterMap_cons_none h2]
      exact dpAll_perm h π
/-- a def that is called with n values by place and the keywords ks -/
structure KfK (P : Program) (w : World) (K : PySem.W.Frag) (mg : Str → Option Value) (base : Heap) (k : Nat) (x : Str) (sp : Sp) (n : Nat) (ks : List Str) (π : List Nat) : Prop where
  ex : ∃ (f : Addr) (fd : FuncData) (ps : List Str), FnOk P w K mg base CX0 k f fd ps sp ∧ mg x = some (.ref f) ∧ PySem.W.keepIn K (.ref f) = true ∧ KBn K fd ps n ks (fun us ws => perm π (us ++ ws)) (fun vs zs => perm π (vs ++ zs))
theorem kbn_of {K : PySem.W.Frag} {x qual : Str} {params : Arguments} {body : List Stmt} {scope : Scope} {kws : List (Str × V)} {f : Addr} {fd : FuncData} {ps : List Str} (F : FunD K x qual params body scope [] kws f fd) (n : Nat) (ks : List Str) (π : List Nat)
    (h : ∀ (kV doc pm : Value) (an : Option Addr) (cdv ct : Value) (us ws : List Value), us.length = n → ws.length = ks.length → bindArgs (PySem.W.fnOf x qual params body scope .none kV doc pm an cdv ct) ⟨us, ks.zip ws⟩ = pure (ps.zip (perm π (us ++ ws)))) :
    KBn K fd ps n ks (fun us ws => perm π (us ++ ws)) (fun vs zs => perm π (vs ++ zs)) := by
  obtain ⟨_, _, _, kv, dc, md, an, cd, cl, _, same, _, _, noDefaults, _⟩ := F.ex
  subst same
  cases noDefaults with
  | inr some_ => exact absurd rfl some_.1
  | inl none_ =>
    obtain ⟨_, rfl⟩ := none_
    exact ⟨fun _ us ws _ n1 n2 => .of_eq (h kv dc md an cd cl us ws n1 n2), fun r1 r2 => vals_perm (vals_app r1 r2) π⟩
structure KD (X : Cx) (kws : List Keyword) (f : Fa) : Prop where
  ex : ∃ t : TA, PK X kws t ∧ ∀ (m : Option Addr) (E : Ef) (G0 G : Hp) (e : Ev) (σ : St) (H : Hp) (rs : List Rs) (e' : Ev) (Q : List V → Hp → Prop),
    Rl X.K m E G0 G e σ H → f e = some (rs, e') → (∀ vs G' H', Rl X.K m E G0 G' e' σ H' → Stp σ G H e G' H' e' → VrAll X.K E G' H' σ e' vs rs → Q vs H') → t σ H Q
section
variable {X : Cx} {a : Expr} {kws : List Keyword} {fa : Fe} {fr : Fa} {nm : Option Str} {kpos : Pos}
theorem kd_nil : KD X [] a_nil := ⟨_, pk_nil, fun m E G0 G e σ H rs e' Q R q P => by
  cases q
  exact P [] G H R Stp.refl True.intro⟩
theorem kd_cons (ha : ED X a fa) (hr : KD X kws fr) : KD X (⟨nm, a, kpos⟩ :: kws) (a_cons fa fr) := by
  obtain ⟨t, p, k⟩ := ha
  obtain ⟨t2, p2, k2⟩ := hr
  refine ⟨_, pk_cons p p2, fun m E G0 G e σ H rs e' Q R q P => ?_⟩
  unfold a_cons at q
  cases h1 : fa e with
  | none => simp only [h1] at q; cases q
  | some z =>
    obtain ⟨r, e1⟩ := z
    simp only [h1] at q
    cases h2 : fr e1 with
    | none => simp only [h2] at q; cases q
    | some z2 =>
      obtain ⟨rs2, e2⟩ := z2
      simp only [h2, Option.some.injEq, Prod.mk.injEq] at q
      obtain ⟨rfl, rfl⟩ := q
      refine k m E G0 G e σ H r e1 _ R h1 fun v G1 H1 R1 S1 V1 N1 => ?_
      obtain ⟨G1', R1', S1', s1, V1'⟩ := R1.freeze S1 V1 N1
      refine k2 m E G0 G1' e1 σ H1 rs2 e2 _ R1' h2 fun vs G2 H2 R2 S2 V2 => ?_
      exact P (v :: vs) G2 H2 R2 (S1'.trans S2) ⟨V1'.stp S2, V2⟩
end
def x_callK (φ : List PyData → Option Rs) (π : List Nat) (fa fk : Fa) : Fe := fun e => match argsI fa e with
  | some (ds, e1) => (match argsI fk e1 with
    | some (zs, e2) => (match φ (perm π (ds ++ zs)) with
      | some (.im d) => some (.im d, e2)
      | some (.ac cs) => some (.ac cs, e2)
      | _ => none)
    | none => none)
  | none => none
section
variable {X : Cx} {a : Expr} {es : List Expr} {kws : List Keyword} {fa fk : Fa} {p pos : Pos} {x : Str} {j k n m : Nat} {ks : List Str} {π : List Nat}
theorem vrAll_len {K : PySem.W.Frag} {E : Ef} {G H : Hp} {σ : St} {e : Ev} : ∀ {vs : List V} {rs : List Rs}, VrAll K E G H σ e vs rs → vs.length = rs.length
  | [], [], _ => rfl
  | _ :: _, _ :: _, h => congrArg (· + 1) (vrAll_len h.2)
  | [], _ :: _, h => h.elim
  | _ :: _, [], h => h.elim
theorem callK_ok {φ : List PyData → Option Rs} {t tk : TA} (hn : ∀ ds, (φ ds).isSome = true → ds.length = n)
    (kk : ∀ (m : Option Addr) (E : Ef) (G0 G : Hp) (e : Ev) (σ : St) (H : Hp) (rs : List Rs) (e' : Ev) (Q : List V → Hp → Prop),
    Rl X.K m E G0 G e σ H → fa e = some (rs, e') → (∀ vs G' H', Rl X.K m E G0 G' e' σ H' → Stp σ G H e G' H' e' → VrAll X.K E G' H' σ e' vs rs → Q vs H') → t σ H Q)
    (kz : ∀ (m : Option Addr) (E : Ef) (G0 G : Hp) (e : Ev) (σ : St) (H : Hp) (rs : List Rs) (e' : Ev) (Q : List V → Hp → Prop),
    Rl X.K m E G0 G e σ H → fk e = some (rs, e') → (∀ vs G' H', Rl X.K m E G0 G' e' σ H' → Stp σ G H e G' H' e' → VrAll X.K E G' H' σ e' vs rs → Q vs H') → tk σ H Q)
    (l1 : ∀ {e e' : Ev} {rs : List Rs}, fa e = some (rs, e') → rs.length = j) (l2 : ∀ {e e' : Ev} {rs : List Rs}, fk e = some (rs, e') → rs.length = k)
    (m : Option Addr) (E : Ef) (G0 G : Hp) (e : Ev) (σ : St) (H : Hp) (rr : Rs) (e' : Ev) (Q : VK) (R : Rl X.K m E G0 G e σ H) (q : x_callK φ π fa fk e = some (rr, e')) (P : Po X.K m E G0 σ G H e rr e' Q) :
    tCallN j k (spD X.K n φ) (fun vs zs => perm π (vs ++ zs)) E0 t tk σ H Q := by
  unfold x_callK at q
  cases h1 : argsI fa e with
  | none => simp only [h1] at q; cases q
  | some z =>
    obtain ⟨ds, e1⟩ := z
    simp only [h1] at q
    obtain ⟨rs, q1, q2⟩ := argsI_ok h1
    cases h3 : argsI fk e1 with
    | none => simp only [h3] at q; cases q
    | some z2 =>
      obtain ⟨zs, e2⟩ := z2
      simp only [h3] at q
      obtain ⟨rs2, q3, q4⟩ := argsI_ok h3
      have main : ∀ r, φ (perm π (ds ++ zs)) = some r → r = rr ∧ e2 = e' → tCallN j k (spD X.K n φ) (fun vs zs => perm π (vs ++ zs)) E0 t tk σ H Q := fun r h2 ⟨z1, z2⟩ => by
        subst z1 z2
        refine kk m E G0 G e σ H rs e1 _ R q1 fun vs G1 H1 R1 S1 V1 => ?_
        refine kz m E G0 G1 e1 σ H1 rs2 e2 _ R1 q3 fun ws G2 H2 R2 S2 V2 => ?_
        have D1 := vr_imAll V1 q2
        have D2 := vr_imAll V2 q4
        have D3 := dpAll_perm (dpAll_app (dpAll_same S2.gg D1) D2) π
        refine ⟨(vrAll_len V1).trans (l1 q1), (vrAll_len V2).trans (l2 q3), G2, perm π (ds ++ zs), r, R2.gh, D3, ?_, h2, fun v G' H' s1 s2 s3 nw vr => ?_⟩
        · rw [dpAll_len D3]
          exact hn _ (by rw [h2]; rfl)
        · obtain ⟨R3, S3⟩ := R2.called s1 s2 s3 nw
          obtain ⟨V3, N3⟩ := R2.vrf vr
          have S12 := S1.trans S2
          exact P v G' H' R3 (S12.trans S3) V3 (nw_back S12 v N3)
      cases h2 : φ (perm π (ds ++ zs)) with
      | none => simp only [h2] at q; cases q
      | some r =>
        cases r with
        | im d =>
          simp only [h2, Option.some.injEq, Prod.mk.injEq] at q
          exact main _ h2 q
        | ac d =>
          simp only [h2, Option.some.injEq, Prod.mk.injEq] at q
          exact main _ h2 q
        | br d => simp only [h2] at q; cases q
theorem pe_callN0 {CX : CXT} {f : Addr} {fd : FuncData} {ps : List Str} {sp : Sp} {E : XK} {tk : TA} {g : List Value → List Value → List Value} {gV : List V → List V → List V} (F : FnOk X.prog X.w X.K X.mg X.base CX k f fd ps sp) (hr : Room k X.A) (hg : Gl X x) (hm : X.mg x = some (.ref f))
    (hk : PySem.W.keepIn X.K (.ref f) = true) (hb : KBn X.K fd ps 0 ks g gV) (hx : Passes CX X E) (hkw : PK X kws tk)
    (hall : (backToKw pos (keywordEach kws X.env)).all (·.1.isSome) = true) (hks : (backToKw pos (keywordEach kws X.env)).filterMap (·.1) = ks)
    (hpl : ((backTo pos (starEach [] X.env)).any (·.1) || (backToKw pos (keywordEach kws X.env)).any (·.1.isNone)) = false) (hdb : (x == ("__debug__" : Str)) = false) :
    PE X (.Call (.Name x p) [] kws pos) (tCallN 0 ks.length sp gV E tNil tk) :=
  ⟨fun pins s σ H Q I h => wpAny_Call_Name_kw (ld_glob I hg hm (PySem.W.callWith_KW0 (h₀ := X.base) I.ok.mod.kin hk hall (thn (hkw.run pos pins s σ H _ I h) fun ws s' ⟨zs, H', I', rz, len0, lenK, q⟩ =>
    ⟨I'.kIn, hks.symm ▸ run_fnN F hr hb hx I' .nil rz len0 lenK q⟩) hpl) hdb)⟩
theorem ed_callK0 {φ : List PyData → Option Rs} (F : KfK X.prog X.w X.K X.mg X.base k x (spD X.K n φ) 0 ks π) (hr : Room j X.A) (hk : k ≤ j) (hn : ∀ ds, (φ ds).isSome = true → ds.length = n) (h : KD X kws fk)
    (l2 : ∀ {e e' : Ev} {rs : List Rs}, fk e = some (rs, e') → rs.length = ks.length) (hg : Gl X x := by rfl)
    (hall : (backToKw pos (keywordEach kws X.env)).all (·.1.isSome) = true := by rfl) (hks : (backToKw pos (keywordEach kws X.env)).filterMap (·.1) = ks := by rfl)
    (hpl : ((backTo pos (starEach [] X.env)).any (·.1) || (backToKw pos (keywordEach kws X.env)).any (·.1.isNone)) = false := by rfl) (hdb : (x == ("__debug__" : Str)) = false := by decide) :
    ED X (.Call (.Name x p) [] kws pos) (x_callK φ π a_nil fk) := by
  obtain ⟨f, fd, ps, F, hm, kp, hb⟩ := F.ex
  obtain ⟨t, pk, kz⟩ := h
  refine ⟨_, pe_callN0 F (hr.mono hk) hg hm kp hb (E := E0) (fun _ _ _ _ _ _ _ z => z.elim) pk hall hks hpl hdb, callK_ok hn (fun m E G0 G e σ H rs e' Q R q P => ?_) kz (fun q => ?_) l2⟩
  · cases q
    exact P [] G H R Stp.refl True.intro
  · cases q
    rfl
theorem len_nil {e e' : Ev} {rs : List Rs} (q : a_nil e = some (rs, e')) : rs.length = 0 := by
  cases q
  rfl
theorem len_cons {fe : Fe} {fr : Fa} {n : Nat} (h : ∀ {e e' : Ev} {rs : List Rs}, fr e = some (rs, e') → rs.length = n) {e e' : Ev} {rs : List Rs} (q : a_cons fe fr e = some (rs, e')) : rs.length = n + 1 := by
  unfold a_cons at q
  split at q
  · split at q
    · rename_i z
      cases q
      exact congrArg (· + 1) (h z)
    · cases q
  · cases q
end
end DL
namespace DL
open PySem PySem.Spec PyProof.Rows L2
end DL
namespace DL
open L2 PySem PySem.Spec PySem.W PyProof.Rows
section
variable {K : PySem.W.Frag} {m : Option Addr} {E : Ef} {G0 G H H1 H2 : Hp} {e : Ev} {σ : St} {i : Nat} {p q : Addr}
/-- the frame, an object exchanged -/
def Ef.put (E : Ef) (q : Addr) (hb : E.b q = none) (o : Option HO) : Ef := ⟨fun a => if a = q then o else E.h a, E.b, fun a u z => by
  have n : a ≠ q := ne_of_none z hb
  rw [if_neg n]
  exact E.sub a u z⟩
end
end DL
namespace DL
open L2 PySem PySem.Spec PySem.W PyProof.Rows
def PoSN (K : PySem.W.Frag) (m : Option Addr) (B G0 G : Hp) (D : Ends) : Fl → Prop
  | .nx e => ∀ (E : Ef) G' σ H, E.b = B → Same G G' → Rz K m E G0 G' e σ H → D.nx σ H
  | .bk e => ∀ (E : Ef) G' σ H, E.b = B → Same G G' → Rz K m E G0 G' e σ H → D.bk σ H
  | .ct e => ∀ (E : Ef) G' σ H, E.b = B → Same G G' → Rz K m E G0 G' e σ H → D.ct σ H
  | .rt r e => ∀ (E : Ef) v G' σ H, E.b = B → Same G G' → Rz K m E G0 G' e σ H → Vr K E G' H σ e v r → D.rt v H
section
variable {K : PySem.W.Frag} {m : Option Addr} {B G0 G G' H : Hp} {E : Ef} {D : Ends} {fl : Fl} {e : Ev} {σ : St}
theorem PoSN.aft (P : PoSN K m B G0 G D fl) (s : Same G G') : PoSN K m B G0 G' D fl := by
  cases fl with
  | nx e => exact fun E G2 σ H b s2 R => P E G2 σ H b (s.trans s2) R
  | bk e => exact fun E G2 σ H b s2 R => P E G2 σ H b (s.trans s2) R
  | ct e => exact fun E G2 σ H b s2 R => P E G2 σ H b (s.trans s2) R
  | rt r e => exact fun E v G2 σ H b s2 R V => P E v G2 σ H b (s.trans s2) R V
theorem PoSN.pos (P : PoSN K m E.b G0 G D fl) : PoS K m E G0 G D fl := by
  cases fl with
  | nx e => exact fun G' σ H s R => P E G' σ H rfl s R
  | bk e => exact fun G' σ H s R => P E G' σ H rfl s R
  | ct e => exact fun G' σ H s R => P E G' σ H rfl s R
  | rt r e => exact fun v G' σ H s R V => P E v G' σ H rfl s R V
end
section
variable {K : PySem.W.Frag} {m : Option Addr} {E : Ef} {G0 G H : Hp} {e : Ev} {σ : St} {i : Nat}
/-- slot i is not the caller's list -/
theorem Rz.set (R : Rz K m E G0 G e σ H) {E' : Ef} {G' H' : Hp} {s : Option Sl} (ok : okS [i] e = true) (R' : Rl K m E' G0 G' (e.set i s) σ H') : Rz K m E' G0 G' (e.set i s) σ H' :=
  ⟨R', fun p z => by
    obtain ⟨z1, z2⟩ := R.z p z
    have n : i ≠ 0 := fun y => okS_no ok z1 (by rw [y]; exact List.mem_singleton.mpr rfl)
    rw [List.getElem?_set_ne n]
    exact ⟨z1, z2⟩⟩
end
end DL
namespace DL
open L2 PySem PySem.Spec PySem.W PyProof.Rows
end DL
namespace DL
open L2 PySem PySem.Spec PySem.W PyProof.Rows
end DL
namespace DL
open L2 PySem PySem.Spec PySem.W PyProof.Rows
end DL
namespace DL
open L2 PySem PySem.Spec PySem.W PyProof.Rows
def isNoneD : PyData → Bool
  | .none => true
  | _ => false
theorem notNone {d : PyData} (h : (!isNoneD d) = true) : d ≠ .none := fun z => by
  rw [z] at h
  cases h
def okOrd (a b : PyData) : Bool := alike a b && (!isNoneD a && decide (a.depth ≤ 64))
def d_ord (f : PyData → PyData → Bool) (a b : PyData) : Option PyData := if okOrd a b = true then some (.bool (f a b)) else none
def rOrd (K : PySem.W.Frag) (f : PyData → PyData → Bool) : R2 := fun x y H Q => ∃ a b, Dp K H x a ∧ Dp K H y b ∧ okOrd a b = true ∧ Q (.bl (f a b)) H
def q_lt : PyData → PyData → Option Rs := orF p_lt fun a b => (d_ord (fun a b => dataLt a b) a b).map Rs.im
def q_gt : PyData → PyData → Option Rs := orF p_gt fun a b => (d_ord (fun a b => dataLt b a) a b).map Rs.im
def q_le : PyData → PyData → Option Rs := orF p_le fun a b => (d_ord (fun a b => !dataLt b a) a b).map Rs.im
def q_ge : PyData → PyData → Option Rs := orF p_ge fun a b => (d_ord (fun a b => !dataLt a b) a b).map Rs.im
theorem vb_ord {K : PySem.W.Frag} {f : PyData → PyData → Bool} : VB K (rOrd K f) (fun a b => (d_ord f a b).map Rs.im) := VB.pure fun G H x y dx dy d Q s lx ly q P => by
  unfold d_ord at q
  by_cases z : okOrd dx dy = true
  · rw [if_pos z] at q
    cases q
    exact ⟨dx, dy, lx.dp s, ly.dp s, z, P _ (.bl _)⟩
  · rw [if_neg z] at q
    cases q
section
variable {X : Cx}
theorem ord_ok {a b : PyData} (h : okOrd a b = true) : alike a b = true ∧ a ≠ .none ∧ a.depth ≤ 64 := by
  unfold okOrd at h
  rw [Bool.and_eq_true, Bool.and_eq_true] at h
  exact ⟨h.1, notNone h.2.1, of_decide_eq_true h.2.2⟩
theorem op_ord {op : CmpOp} {f : PyData → PyData → Bool} (hu : X.A.units + 64 < cLine)
    (k : ∀ {s : Shared} {a b : Value} {da db : PyData} {as bs : List Addr} {Q : Value → Shared → Prop}, Reads s.heap a da as → Reads s.heap b db bs → alike da db = true → da ≠ .none → X.A.units + min da.depth db.depth < cLine → Q (.bool (f da db)) s → wpAny (model X.prog X.w) X.A (compareOp op a b) Q X.xe s) :
    OpR X (compareOp op) (rOrd X.K f) := by
  rintro pins s σ H x y v u Q I rx ry ⟨a, b, hx, hy, ok, q⟩
  obtain ⟨as, ra⟩ := Dp.reads I a x v hx rx
  obtain ⟨bs, rb⟩ := Dp.reads I b y u hy ry
  obtain ⟨o1, o2, o3⟩ := ord_ok ok
  exact k ra rb o1 o2 (by omega) ⟨.bl _, H, I, rfl, q⟩
theorem vq_lt : VB X.K (fun x y H Q => (rI0 fun i j => .bl (decide (i < j))) x y H Q ∨ rOrd X.K (fun a b => dataLt a b) x y H Q) q_lt := VB.or vb_lt vb_ord
theorem vq_gt : VB X.K (fun x y H Q => (rI0 fun i j => .bl (decide (j < i))) x y H Q ∨ rOrd X.K (fun a b => dataLt b a) x y H Q) q_gt := VB.or vb_gt vb_ord
theorem vq_le : VB X.K (fun x y H Q => (rI0 fun i j => .bl (decide (i ≤ j))) x y H Q ∨ rOrd X.K (fun a b => !dataLt b a) x y H Q) q_le := VB.or vb_le vb_ord
theorem vq_ge : VB X.K (fun x y H Q => (rI0 fun i j => .bl (decide (j ≤ i))) x y H Q ∨ rOrd X.K (fun a b => !dataLt a b) x y H Q) q_ge := VB.or vb_ge vb_ord
theorem oq_lt (hu : X.A.units + 64 < cLine) : OpR X (compareOp .Lt) (fun x y H Q => (rI0 fun i j => .bl (decide (i < j))) x y H Q ∨ rOrd X.K (fun a b => dataLt a b) x y H Q) :=
  OpR.or op_lt (op_ord hu fun ra rb h hn hz q => lt_data ra rb h hn hz q)
theorem oq_gt (hu : X.A.units + 64 < cLine) : OpR X (compareOp .Gt) (fun x y H Q => (rI0 fun i j => .bl (decide (j < i))) x y H Q ∨ rOrd X.K (fun a b => dataLt b a) x y H Q) :=
  OpR.or op_gt (op_ord hu fun ra rb h hn hz q => gt_data ra rb h hn hz q)
theorem oq_le (hu : X.A.units + 64 < cLine) : OpR X (compareOp .LtE) (fun x y H Q => (rI0 fun i j => .bl (decide (i ≤ j))) x y H Q ∨ rOrd X.K (fun a b => !dataLt b a) x y H Q) :=
  OpR.or op_le (op_ord hu fun ra rb h hn hz q => le_data ra rb h hn hz q)
theorem oq_ge (hu : X.A.units + 64 < cLine) : OpR X (compareOp .GtE) (fun x y H Q => (rI0 fun i j => .bl (decide (j ≤ i))) x y H Q ∨ rOrd X.K (fun a b => !dataLt a b) x y H Q) :=
  OpR.or op_ge (op_ord hu fun ra rb h hn hz q => ge_data ra rb h hn hz q)
end
end DL
namespace DL
open L2 PySem PySem.Spec PySem.W PyProof.Rows
section
variable {i j : Int}
theorem e_qlt : q_lt (.int i) (.int j) = some (.im (.bool (decide (i < j)))) := rfl
theorem e_qle : q_le (.int i) (.int j) = some (.im (.bool (decide (i ≤ j)))) := rfl
theorem e_qgt : q_gt (.int i) (.int j) = some (.im (.bool (decide (j < i)))) := rfl
theorem e_qge : q_ge (.int i) (.int j) = some (.im (.bool (decide (j ≤ i)))) := rfl
end
/-- an item told by the number of a version -/
def gv {α : Type} [Inhabited α] (l : List α) (v : Nat) : α := l.getD (v - 1) default
theorem gv_get {α : Type} [Inhabited α] {l : List α} {k : Nat} (h : k < l.length) : l[k]? = some (gv l (k + 1)) := by
  unfold gv
  rw [Nat.add_sub_cancel, List.getD_eq_getElem?_getD, List.getElem?_eq_getElem h]
  rfl
section
variable {α : Type} [Inhabited α] {f : α → PyData} {l : List α}
theorem gv_mem {v : Nat} (h : 1 ≤ v) (h2 : v ≤ l.length) : gv l v ∈ l := by
  have := gv_get (l := l) (k := v - 1) (by omega)
  rw [Nat.sub_add_cancel h] at this
  exact List.mem_of_getElem? this
end
def wS (f : Fs) (e : Ev) (Q : Fl → Prop) : Prop := ∃ fl, f e = some fl ∧ Q fl
def seqK (g : Fs) (Q : Fl → Prop) : Fl → Prop
  | .nx e => wS g e Q
  | .bk e => Q (.bk e)
  | .ct e => Q (.ct e)
  | .rt r e => Q (.rt r e)
section
variable {f g : Fs} {e e1 : Ev} {Q : Fl → Prop} {c : Ft} {x : Fe} {r : Rs} {fl : Fl}
theorem w_seq (h : wS f e (seqK g Q)) : wS (s_seq f g) e Q := by
  obtain ⟨fl, h1, h2⟩ := h
  cases fl with
  | nx e1 =>
    obtain ⟨fl, h3, h4⟩ := h2
    exact ⟨fl, by rw [r_s_seq, h1]; exact h3, h4⟩
  | bk e => exact ⟨.bk e, by rw [r_s_seq, h1], h2⟩
  | ct e => exact ⟨.ct e, by rw [r_s_seq, h1], h2⟩
  | rt r e => exact ⟨.rt r e, by rw [r_s_seq, h1], h2⟩
theorem w_nx (q : Q (.nx e)) : wS s_nx e Q := ⟨_, rfl, q⟩
theorem w_ret (h : x e = some (r, e1)) (q : Q (.rt r e1)) : wS (s_ret x) e Q := ⟨_, ret h, q⟩
theorem w_drop (h : x e = some (r, e1)) (q : Q (.nx e1)) : wS (s_drop x) e Q := ⟨_, drop h, q⟩
theorem w_setI {i : Nat} {d : PyData} (h : x e = some (.im d, e1)) (ok : okS [i] e1 = true) (q : Q (.nx (e1.set i (some (.im d))))) : wS (s_setF i x) e Q := ⟨_, setF h ok rfl, q⟩
theorem w_setL {i : Nat} {ds : List PyData} (h : x e = some (.ac ds, e1)) (ok : okS [i] e1 = true) (q : Q (.nx (e1.set i (some (.im (.list ds)))))) : wS (s_setF i x) e Q := ⟨_, setF h ok rfl, q⟩
theorem w_setA {i : Nat} {ds : List PyData} (h : x e = some (.ac ds, e1)) (ok : okS [i] e1 = true) (q : Q (.nx (e1.set i (some (.ac ds))))) : wS (s_set i x) e Q := ⟨_, setX h ok rfl, q⟩
theorem w_if {b : Bool} (h : c e = some (b, e1)) (t : b = true → wS f e1 Q) (n : b = false → wS g e1 Q) : wS (s_if c f g) e Q := by
  cases b with
  | true =>
    obtain ⟨fl, h1, h2⟩ := t rfl
    exact ⟨fl, ifT h h1, h2⟩
  | false =>
    obtain ⟨fl, h1, h2⟩ := n rfl
    exact ⟨fl, ifF h h1, h2⟩
theorem w_ifF (h : c e = some (false, e1)) (t : wS g e1 Q) : wS (s_if c f g) e Q := w_if h (fun z => by cases z) fun _ => t
end
section
variable {e : Ev} {d : PyData} {ds : List PyData} {r : Rs} {rs : List Rs} {i : Nat} {S : List Nat}
theorem n_lookAll1 {e : Ev} {r : Rs} {rs : List Rs} : lookAll e (r :: rs) = (match lookR e r with
    | some d => (match lookAll e rs with
      | some ds => some (d :: ds)
      | none => none)
    | none => none) := rfl
theorem n_min2 {k j : Int} : c_min2 [.int k, .int j] = some (.im (.int (min k j))) := by
  show some (Rs.im (.int (if j < k then j else k))) = _
  congr 3
  split <;> omega
theorem n_all0 {bs : List Bool} : c_all [.list (bs.map PyData.bool)] = some (.im (.bool (bs.all id))) := by
  unfold c_all
  simp only [unB_map]
theorem n_intsL {g : List Int → Option Rs} {ns : List Int} : c_intsL g [.list (ns.map PyData.int)] = g ns := by
  simp only [c_intsL, unI_ints]
end
end DL
namespace DL
open L2 PySem PySem.Spec PySem.W PyProof.Rows
section
variable {P0 : Program} {w0 : World} {A0 : Around} {E0' : Value → Shared → Prop} {s : Shared}
theorem places_rev (n : Nat) : Builtin.Slice.slicePlaces ((n : Int) - 1) (-1) (-1) = n := by
  cases n with
  | zero => decide
  | succ m =>
    have a : ¬ (-1 : Int) > 0 := by omega
    have b : (-1 : Int) < ((m + 1 : Nat) : Int) - 1 := by omega
    simp only [Builtin.Slice.slicePlaces, if_neg a, if_pos b, Int.neg_neg, Int.ediv_one]
    omega
theorem applied_rev {sl : Addr} {u : Tok} {n : Nat} {Q : Int × Int × Nat → Shared → Prop} (hs : s.heap.IsSliceOf sl .none .none (.int (-1) u)) (h : Q ((n : Int) - 1, -1, n) s) : wpAny (model P0 w0) A0 (Builtin.Slice.sliceApplied (.ref sl) (pure (n : Int))) Q E0' s := by
  obtain ⟨so, e1, e2, e3⟩ := id hs
  have parts : ∀ {K : Value × Value × Value → Shared → Prop}, K (.none, .none, .int (-1) u) s → wpAny (model P0 w0) A0 (Builtin.Slice.sliceFields (.ref sl)) K E0' s := fun {K} k => by
    unfold Builtin.Slice.sliceFields
    exact wpAny_bind (wpAny_field e1 e3 (x := .none) rfl (wpAny_bind (wpAny_field e1 e3 (x := .none) rfl (wpAny_bind (wpAny_field e1 e3 (x := .int (-1) u) rfl (wpAny_pure k))))))
  have rest : wpAny (model P0 w0) A0 (pure ((n : Int) - 1, (-1 : Int), Builtin.Slice.slicePlaces ((n : Int) - 1) (-1) (-1))) Q E0' s := by
    rw [places_rev]
    exact wpAny_pure h
  unfold Builtin.Slice.sliceApplied
  refine wpAny_bind (parts (wpAny_bind (HT.slicePart_ (IsPart.int (-1) u) ?_)))
  have two : ((-1 : Int) == 0) = false := rfl
  simp only [two]
  exact wpAny_bind (HT.slicePart_ IsPart.none (wpAny_bind (HT.slicePart_ IsPart.none (wpAny_bind (wpAny_pure rest)))))
theorem fm_congr {α β : Type} {f g : α → Option β} : ∀ {l : List α}, (∀ x ∈ l, f x = g x) → l.filterMap f = l.filterMap g
  | [], _ => rfl
  | a :: l, h => by
    rw [List.filterMap_cons, List.filterMap_cons, h a List.mem_cons_self, fm_congr fun x m => h x (List.mem_cons_of_mem _ m)]
theorem fm_self {α : Type} : ∀ r : List α, (List.range r.length).filterMap (fun k => r[k]?) = r
  | [] => rfl
  | a :: r => by
    rw [List.length_cons, List.range_succ_eq_map, List.filterMap_cons, List.filterMap_map]
    have := fm_self r
    show a :: (List.range r.length).filterMap (fun k => (a :: r)[k + 1]?) = a :: r
    simp only [List.getElem?_cons_succ]
    rw [this]
theorem pick_backL {α : Type} (l : List α) : (List.range l.length).filterMap (fun (k : Nat) => l[(((l.length : Int) - 1) + (k : Int) * (-1)).toNat]?) = l.reverse := by
  have e2 := fm_self l.reverse
  rw [List.length_reverse] at e2
  rw [← e2]
  refine fm_congr fun k hk => ?_
  have hk := List.mem_range.mp hk
  rw [List.getElem?_reverse hk]
  congr 1
  omega
theorem pick_back (xs : Array Value) : ((List.range xs.size).filterMap fun (k : Nat) => xs[(((xs.size : Int) - 1) + (k : Int) * (-1)).toNat]?).toArray = xs.toList.reverse.toArray := by
  congr 1
  have q := pick_backL xs.toList
  rw [Array.length_toList] at q
  simp only [Array.getElem?_toList] at q
  exact q
theorem item_back {t sl : Addr} {xs : Array Value} {u : Tok} {Q : Value → Shared → Prop} (ht : IsTup s.heap t xs) (hs : s.heap.IsSliceOf sl .none .none (.int (-1) u)) (hz : xs.size ≤ sizeLine)
    (h : Q (.ref s.heap.objs.size) { s with heap := s.heap.push { cls := .type "tuple", data := .seq xs.toList.reverse.toArray } }) : wpAny (model P0 w0) A0 (getItem (.ref t) (.ref sl)) Q E0' s := by
  have fit : sizeOk (.seq xs.toList.reverse.toArray) := by
    show xs.toList.reverse.toArray.size ≤ sizeLine
    rw [List.size_toArray, List.length_reverse, Array.length_toList]
    exact hz
  have isS : s.TypeIs (.ref sl) "slice" := by
    obtain ⟨so, e1, e2, _⟩ := hs
    exact ⟨so, e1, e2⟩
  have whole : (((xs.size : Int) - 1) == 0 && (-1 : Int) == 1 && xs.size == xs.size) = false := by simp
  have read : ∀ {A1 : Around} {E1 : Value → Shared → Prop} {R : PySem.Fin → Shared → Prop}, R (.done (.ret (.ref s.heap.objs.size))) { s with heap := s.heap.push { cls := .type "tuple", data := .seq xs.toList.reverse.toArray } } →
      wpAny (model P0 w0) A1 (Builtin.«tuple.__getitem__» ⟨[.ref t, .ref sl], []⟩) R E1 s := fun {A1 E1 R} r => by
    change wpAny (model P0 w0) A1 (Builtin.Tuple.tupleItemsOf (.ref t) >>= fun _ => _) R E1 s
    refine wpAny_bind (tupleItemsOf_ ht (wpAny_bind (wpAny_typeOf isS ?_)))
    rw [if_pos (by decide)]
    refine wpAny_bind (applied_rev hs ?_)
    change wpAny (model P0 w0) A1 (if (((xs.size : Int) - 1) == 0 && (-1 : Int) == 1 && xs.size == xs.size) = true then _ else _) R E1 s
    rw [if_neg (by rw [whole]; exact Bool.noConfusion), pick_back]
    exact wpAny_bind (wpAny_newObj_type (wpAny_pure r) fit)
  unfold getItem
  refine wpAny_holding (wpAny_bind (wpAny_sequenceKey ht.typeIs (by decide) (wpAny_bind (wpAny_callSpecial?_slot (name := Str.ofString "__getitem__") ht.typeIs slot_tuple_getitem (wpAny_call_entry slot_tuple_getitem ht.typeIs entry_tuple_getitem (read ⟨_, rfl, wpAny_pure h⟩) (args_tuple_getitem _ _))))))
/-- what a slice that goes back asks of its tuple -/
def bkT (K : PySem.W.Frag) (Q : VK) (x : V) (lo hi st : Option Int) (H : Hp) : Prop := lo = none ∧ hi = none ∧ st = some (-1) ∧ ∃ a xs, x = .ref a ∧ SqT K H a xs ∧ ∀ p, H p = none → Q (.ref p) (upd H p (.tup xs.reverse))
end
theorem pe_revT {X : Cx} {e : Expr} {te : TE} {k : Nat} {p1 p2 p3 pos : Pos} (he : PE X e te) : ∃ tm, PO X (some (.UnaryOp .USub (.Constant (.int 1) k p1) p2)) tm ∧ (∀ σ H Q, Q (some (-1)) H → tm σ H Q) ∧
    PE X (.Subscript e (.Slice none none (some (.UnaryOp .USub (.Constant (.int 1) k p1) p2)) p3) pos) (fun σ H Q => tSl te (fun _ H Q => Q none H) (fun _ H Q => Q none H) tm (bkT X.K Q) σ H) := by
  have minus : PO X (some (.UnaryOp .USub (.Constant (.int 1) k p1) p2)) (tPart (tUn (rU fun i => .int (-i)) (tC (.int 1)))) := po_some (pe_un un_neg pe_int)
  refine ⟨_, minus, fun σ H Q q => ⟨1, rfl, -1, rfl, q⟩, ?_⟩
  constructor
  intro pins s σ H Q I h
  refine run_sl he po_none po_none minus I h ?_
  rintro _ _ _ vl _ vu _ vo s' H' rx pl pu po J ⟨rfl, rfl, rfl, a, xs, rfl, hx, q⟩
  cases rx
  cases pl
  cases pu
  cases po with
  | int _ tk =>
    obtain ⟨its, rv, tp, sz⟩ := J.tuple hx
    refine tail_any (ops := [.ref a, .ref s'.heap.objs.size]) tp.typeIs PyProof.Rows.slot_tuple_getitem.lookup ?_ (by with_unfolding_all rfl)
    refine item_back tp (Heap.IsSliceOf.new _ _ _ _) (by rw [List.size_toArray, ← rv.length]; exact sz) ?_
    exact ⟨.ref _, _, J.laid (t' := s'.toks) (o := .tup xs.reverse) (fun _ _ z => Heap.get?_push_of_some _ z) (Nat.le_refl _) ⟨by rw [List.length_reverse]; exact sz, _, rv.reverse, IsTup.new _ _⟩, rfl, q _ (J.hok.fresh (Nat.le_refl _))⟩
theorem pe_or {X : Cx} {e : Expr} {t1 t2 : TE} (h1 : PE X e t1) (h2 : PE X e t2) : PE X e (fun σ H Q => t1 σ H Q ∨ t2 σ H Q) :=
  ⟨fun pins s σ H Q I h => h.elim (h1.run pins s σ H Q I) (h2.run pins s σ H Q I)⟩
def x_rvs (fa : Fe) : Fe := fun e => match fa e with
  | some (r, e1) => (match lookR e1 (frzR r) with
    | some (.list ds) => some (.ac ds.reverse, e1)
    | some (.tuple ds) => some (.im (.tuple ds.reverse), e1)
    | _ => none)
  | none => none
theorem ed_rvs {X : Cx} {a : Expr} {fa : Fe} {pos : Pos} {n : Nat} {p1 p2 p3 : Pos} (ha : ED X a fa) : ED X (.Subscript a (.Slice none none (some (.UnaryOp .USub (.Constant (.int 1) n p1) p2)) p3) pos) (x_rvs fa) := by
  obtain ⟨t, p, k⟩ := ha
  obtain ⟨tm, _, hm, pb⟩ := pe_revT (k := n) (p1 := p1) (p2 := p2) (p3 := p3) (pos := pos) p
  refine ⟨_, pe_or (pe_revL p) pb, fun m E G0 G e σ H r e' Q R q P => ?_⟩
  unfold x_rvs at q
  cases h1 : fa e with
  | none => simp only [h1] at q; cases q
  | some z =>
    obtain ⟨r0, e1⟩ := z
    simp only [h1] at q
    split at q
    · rename_i ds h4
      cases q
      refine .inl (k m E G0 G e σ H r0 _ _ R h1 fun v G1 H1 R1 S1 V1 N1 => ?_)
      obtain ⟨G2, R2, S2, s2, V2⟩ := R1.freeze S1 V1 N1
      obtain ⟨b, ws, ex, hs, dk⟩ := (R2.look V2 h4).list R2.gh
      refine ⟨b, ws, ex, hs, fun p hp => ?_⟩
      obtain ⟨R', S', V', N'⟩ := R2.newL hp (dpAll_rev dk)
      exact P _ _ _ R' (S2.trans S') V' (nw_back S2 _ N')
    · rename_i ds h4
      cases q
      refine .inr (k m E G0 G e σ H r0 _ _ R h1 fun v G1 H1 R1 S1 V1 N1 => ?_)
      obtain ⟨G2, R2, S2, s2, V2⟩ := R1.freeze S1 V1 N1
      obtain ⟨b, ws, ex, hs, dk⟩ := (R2.look V2 h4).tup R2.gh
      refine hm _ _ _ ⟨rfl, rfl, rfl, b, ws, ex, hs, fun p hp => ?_⟩
      obtain ⟨R', S', D'⟩ := R2.newT hp (dpAll_rev dk)
      exact P _ _ _ R' (S2.trans S') D' True.intro
    · cases q
theorem r_x_rvs (fa : Fe) (e : Ev) : x_rvs fa e = (match fa e with
  | some (r, e1) => (match lookR e1 (frzR r) with
    | some (.list ds) => some (.ac ds.reverse, e1)
    | some (.tuple ds) => some (.im (.tuple ds.reverse), e1)
    | _ => none)
  | none => none) := of_eq_true (eq_self _)
end DL
namespace DL
open L2 PySem PySem.Spec PySem.W PyProof.Rows
abbrev im (d : PyData) : Option Sl := some (.im d)
abbrev ac (ds : List PyData) : Option Sl := some (.ac ds)
theorem downI_perm (l : List Int) : (downI l).Perm l := sortB_perm _ l
end DL
namespace DL
open L2 PySem PySem.Spec PySem.W PyProof.Rows
section
variable {x y : Fe} {e e1 e2 : Ev} {a b d : PyData} {r : Rs} {φ : List PyData → Option Rs} {Q : Fl → Prop} {ds : List PyData} {fa : Fa} {i : Nat}
theorem tupI (h : argsI fa e = some (ds, e1)) (hl : ds.length ≤ 16777216) : x_tup fa e = some (.im (.tuple ds), e1) := by
  rw [r_x_tup, h]
  dsimp only
  rw [if_pos (okLen_yes hl)]
theorem iRng1 {m : Nat} (h : x e = some (.im (.int (m : Int)), e1)) (hm : m ≤ 1000000) : i_rng1 x e = some ((List.range m).map nD, e1) := i_rng1_at h hm
theorem negI {k : Int} (h : x e = some (.im (.int k), e1)) : x_neg x e = some (.im (.int (-k)), e1) := by
  rw [r_x_neg, h]
end
end DL
namespace DL
open L2 PySem PySem.Spec PySem.W PyProof.Rows
theorem callKI {φ : List PyData → Option Rs} {π : List Nat} {fa fk : Fa} {e e1 e2 : Ev} {ds zs ds' : List PyData} {d : PyData} (h1 : argsI fa e = some (ds, e1)) (h2 : argsI fk e1 = some (zs, e2)) (hd : perm π (ds ++ zs) = ds') (h : φ ds' = some (.im d)) : x_callK φ π fa fk e = some (.im d, e2) := by
  unfold x_callK
  rw [h1]
  dsimp only
  rw [h2]
  dsimp only
  rw [hd, h]
end DL
namespace DL
open L2 PySem PySem.Spec PySem.W PyProof.Rows
end DL
namespace DL
open PySem PySem.Spec PyProof.Rows L2
section
variable {X : Cx}
theorem lcF_ok {m : Option Addr} {E : Ef} {G0 G1 H1 : Hp} {e1 : Ev} {σ : St} {ds : List PyData} {J : It} {S vs : List Nat} {γ : PyData → Ev → Option Ev} {tst : Ft} {fe : Fe} {acc : List PyData} {eF : Ev} {K : PySem.W.Frag} {Z : Hp → Prop} {D : Addr} {ws0 : List V} {ac0 : List PyData}
    (R1 : Rl K m E G0 G1 e1 σ H1) (WD : WalkD K G1 J ds) (hS : ∀ i ∈ S, i ∈ vs) (hn : noAc e1 vs = true) (q : lcGo γ tst fe vs ds (wipeE e1 vs) ac0 = some (acc, eF)) (hD : H1 D = none) (d0 : DpAll K G1 ws0 ac0)
    (P : ∀ G H ws, Rl K m E G0 G (restE e1 eF vs) σ H → Stp σ G1 H1 e1 G H (restE e1 eF vs) → G D = none → H D = some (.lst ws) → DpAll K G ws acc → Z H) :
    ∃ W : Nat → Nat → Hp → Prop, (∃ mm, W 0 mm (upd H1 D (.lst ws0))) ∧ ∀ i mm H, W i mm H →
      (J.stop i H ∧ Z H) ∨ (J.go i H ∧ ∃ Nx : Hp → Prop, (∀ H', Nx H' → ∃ m', m' < mm ∧ W (i + 1) m' H') ∧ ∀ x H', J.yld i H x H' → tgOf K S γ x (L2.wipe σ vs) H' fun σ2 H2 => L2.wipe σ2 vs = L2.wipe σ vs ∧ ttOf K tst σ2 H2 fun b H3 =>
        if b = true then teOf K fe σ2 H3 fun y H4 => ∃ acc, H4 D = some (.lst acc) ∧ acc.length < sizeLine ∧ Nx (upd H4 D (.lst (acc ++ [y]))) else Nx H3) := by
  obtain ⟨gD, eD, oD, mD⟩ := R1.fresh hD
  let W : Nat → Nat → Hp → Prop := fun i mm H => ∃ G e ac ws, mm = ds.length - i ∧ i ≤ ds.length ∧ Rl K m E G0 G e (L2.wipe σ vs) H ∧ Stp (L2.wipe σ vs) G1 H1 (wipeE e1 vs) G H e ∧ G D = none ∧ H D = some (.lst ws) ∧ DpAll K G ws ac ∧ lcGo γ tst fe vs (ds.drop i) e ac = some (acc, eF)
  refine ⟨W, ⟨ds.length, G1, wipeE e1 vs, ac0, ws0, by simp, Nat.zero_le _, ?_, ?_, gD, upd_same, d0, by simpa using q⟩, ?_⟩
  · exact ((R1.wipe vs).newL hD d0).1
  · exact ((R1.wipe vs).newL hD d0).2.1
  rintro i mm H ⟨G, e, ac, ws, rfl, hi, R, S1, hG, hH, dv, lc⟩
  -- what is nobody's
  have noD : ¬ Own (L2.wipe σ vs) e D := fun z => oD ((own_wipe hn).mp ((own_kd S1.kd).mp z))
  obtain ⟨wk, stop⟩ := WD G H S1.gg R.gh
  by_cases hlt : i < ds.length
  · have hd : ds.drop i = ds[i] :: ds.drop (i + 1) := by rw [List.drop_eq_getElem_cons hlt]
    have hget : ds[i]? = some ds[i] := List.getElem?_eq_getElem hlt
    rw [hd] at lc
    generalize ds[i] = d at lc hget hd
    obtain ⟨go, yl⟩ := wk i d hget
    refine .inr ⟨go, W (i + 1) (ds.length - (i + 1)), fun H' h => ⟨_, by omega, h⟩, fun x H' y => ?_⟩
    -- what is yielded
    have hY : ∃ G', Rl K m E G0 G' e (L2.wipe σ vs) H' ∧ Stp (L2.wipe σ vs) G H e G' H' e ∧ Dp K G' x d := by
      rcases yl x H' y with ⟨rfl, h⟩ | ⟨T, us, es, rfl, nT, rfl, rfl, h⟩
      · exact ⟨G, R, Stp.refl, h⟩
      · obtain ⟨R', S', D'⟩ := R.newT nT h
        exact ⟨_, R', S', D'⟩
    obtain ⟨G', R', S', dx⟩ := hY
    have gD' : G' D = none := S'.nw D hG (by rw [hH]; simp)
    have hD' : H' D = some (.lst ws) := S'.hh D _ hH noD
    -- the turn's own steps
    simp only [lcGo] at lc
    cases h1 : γ d e with
    | none => simp only [h1] at lc; cases lc
    | some e2 =>
      simp only [h1] at lc
      refine ⟨m, E, G0, G', e, d, e2, R', dx, h1, fun σ' R2 out sl el ac1 => ?_⟩
      have wsame : L2.wipe σ' vs = L2.wipe σ vs := by
        have z := wipe_same (vs := vs) (σ' := σ') (σ := L2.wipe σ vs) (fun i hi => (out i fun z => hi (hS i z)).1) sl
        rw [wipe_wipe] at z
        exact z
      refine ⟨wsame, ?_⟩
      have vsE : ∀ i ∈ vs, isAc e[i]? = false := fun i hi => by
        rw [S1.kd i]
        cases z : (wipeE e1 vs)[i]? with
        | none => rfl
        | some s =>
          cases s with
          | none => rfl
          | some s => exact absurd hi (wipeE_in z)
      have own2 : ∀ a, Own σ' e2 a → Own (L2.wipe σ vs) e a := fun a ⟨j, dj, z1, z2⟩ => by
        by_cases hj : j ∈ S
        · have q1 := ac1 j hj (by rw [z1]; rfl)
          rw [vsE j (hS j hj)] at q1
          cases q1
        · obtain ⟨o1, o2⟩ := out j hj
          exact ⟨j, dj, by rw [← o2]; exact z1, by rw [← o1]; exact z2⟩
      -- closing a turn: from the state behind the element
      have fin : ∀ {G5 H4 : Hp} {e3 : Ev} {ws2 : List V} {ac2 : List PyData}, Rl K m E G0 G5 e3 σ' H4 → Stp σ' G' H' e2 G5 H4 e3 → DpAll K G5 ws2 ac2 → lcGo γ tst fe vs (ds.drop (i + 1)) (wipeE e3 vs) ac2 = some (acc, eF) →
          W (i + 1) (ds.length - (i + 1)) (upd H4 D (.lst ws2)) := by
        intro G5 H4 e3 ws2 ac2 R5 S5 d5 lc5
        have g5 : G5 D = none := S5.nw D gD' (by rw [hD']; simp)
        have o5 : ¬ Own σ' e3 D := fun z => noD (own2 D ((own_kd S5.kd).mp z))
        have R6 := (R5.updD (ws := ws2) g5 eD o5).wipe vs
        rw [wsame] at R6
        refine ⟨G5, wipeE e3 vs, ac2, ws2, rfl, hlt, R6, ⟨S1.gg.trans (S'.gg.trans S5.gg), fun a h1 h2 => ?_, fun a o h1 h2 => ?_, fun j => ?_, fun a h1 => ?_⟩, g5, upd_same, d5, lc5⟩
        · exact S5.nw a (S'.nw a (S1.nw a h1 h2) (S1.th a h2)) (S'.th a (S1.th a h2))
        · have z : a ≠ D := ne_of_none h1 hD
          rw [upd_ne z]
          have n1 : ¬ Own (L2.wipe σ vs) e a := fun y => h2 ((own_kd S1.kd).mp y)
          exact S5.hh a o (S'.hh a o (S1.hh a o h1 h2) n1) fun y => n1 (own2 a y)
        · by_cases hj : j ∈ vs
          · have b1 : ∀ {e : Ev}, isAc (wipeE e vs)[j]? = false := fun {e} => by
              cases z : (wipeE e vs)[j]? with
              | none => rfl
              | some s =>
                cases s with
                | none => rfl
                | some s => exact absurd hj (wipeE_in z)
            rw [b1, b1]
          · rw [wipeE_out hj, S5.kd j, (out j fun z => hj (hS j z)).2]
            exact S1.kd j
        · by_cases z : a = D
          · rw [z, upd_same]
            simp
          · rw [upd_ne z]
            exact S5.th a (S'.th a (S1.th a h1))
      cases h2 : tst e2 with
      | none => simp only [h2] at lc; cases lc
      | some z =>
        obtain ⟨b, e3⟩ := z
        cases b with
        | false =>
          simp only [h2] at lc
          refine ⟨m, E, G0, G', e2, false, e3, R2, h2, fun G3 H3 R3 S3 => ?_⟩
          show (if false = true then _ else _)
          rw [if_neg Bool.false_ne_true]
          have w3 : H3 D = some (.lst ws) := S3.hh D _ hD' fun z => noD (own2 D z)
          have eu : upd H3 D (.lst ws) = H3 := by
            funext b
            by_cases z : b = D
            · rw [z, upd_same, w3]
            · rw [upd_ne z]
          have z := fin R3 S3 (dpAll_same (S'.gg.trans S3.gg) dv) lc
          rw [eu] at z
          exact z
        | true =>
          simp only [h2] at lc
          refine ⟨m, E, G0, G', e2, true, e3, R2, h2, fun G3 H3 R3 S3 => ?_⟩
          show (if true = true then _ else _)
          rw [if_pos rfl]
          cases h3 : fe e3 with
          | none => simp only [h3] at lc; cases lc
          | some z =>
            obtain ⟨r, e4⟩ := z
            simp only [h3] at lc
            refine ⟨m, E, G0, G3, e3, r, e4, R3, h3, fun v G4 H4 R4 S4 V4 N4 => ?_⟩
            obtain ⟨G5, R5, S5, s5, V5⟩ := R4.freeze (S3.trans S4) V4 (nw_back S3 v N4)
            cases h4 : imR (frzR r) with
            | none => simp only [h4] at lc; cases lc
            | some yd =>
              simp only [h4] at lc
              have er : frzR r = .im yd := by
                cases r with
                | im d =>
                  cases h4
                  rfl
                | ac ds =>
                  cases h4
                  rfl
                | br i => cases h4
              rw [er] at V5
              by_cases h5 : okLen (ac.length + 1) = true
              · rw [if_pos h5] at lc
                have w4 : H4 D = some (.lst ws) := S5.hh D _ hD' fun z => noD (own2 D z)
                have hl := okLen_ok h5
                refine ⟨ws, w4, by rw [dpAll_len dv]; omega, ?_⟩
                exact fin R5 S5 (dpAll_app (dpAll_same (S'.gg.trans S5.gg) dv) (.cons V5 .nil)) lc
              · rw [if_neg h5] at lc
                cases lc
  · have hi2 : i = ds.length := by omega
    subst hi2
    rw [List.drop_length] at lc
    simp only [lcGo, Option.some.injEq, Prod.mk.injEq] at lc
    obtain ⟨rfl, rfl⟩ := lc
    have hl : e.length = e1.length := by
      have z1 := R.len
      have z2 := R1.len
      rw [wipe_length] at z1
      omega
    have vsE : ∀ i ∈ vs, isAc e[i]? = false := fun i hi => by
      rw [S1.kd i]
      cases z : (wipeE e1 vs)[i]? with
      | none => rfl
      | some s =>
        cases s with
        | none => rfl
        | some s => exact absurd hi (wipeE_in z)
    have kd : ∀ j : Nat, isAc (restE e1 e vs)[j]? = isAc e1[j]? := fun j => by
      by_cases hj : j ∈ vs
      · rw [restE_in hl hj]
      · rw [restE_out hj, S1.kd j, wipeE_out hj]
    have get : ∀ {j : Nat} {s : Sl}, (restE e1 e vs)[j]? = some (some s) → (j ∈ vs ∧ e1[j]? = some (some s)) ∨ (j ∉ vs ∧ e[j]? = some (some s)) := fun {j s} z => by
      by_cases hj : j ∈ vs
      · rw [restE_in hl hj] at z
        exact .inl ⟨hj, z⟩
      · rw [restE_out hj] at z
        exact .inr ⟨hj, z⟩
    have ac1 : ∀ {j : Nat} {dj : List PyData}, (restE e1 e vs)[j]? = some (some (.ac dj)) → j ∉ vs ∧ e[j]? = some (some (.ac dj)) := fun {j dj} z => by
      rcases get z with ⟨h1, h2⟩ | z
      · have q1 := noAc_at hn h1
        rw [h2] at q1
        cases q1
      · exact z
    have RF : Rl K m E G0 G (restE e1 e vs) σ H := by
      refine ⟨R.gg, R.gh, R.eh, R.mh, R.nw, by rw [restE_len, hl]; exact R1.len, fun j d z => ?_, fun j dj z => ?_, fun j k dj dk p z1 z2 z3 z4 => ?_, fun j dss z => ?_⟩
      · rcases get z with ⟨h1, h2⟩ | ⟨h1, h2⟩
        · obtain ⟨v, a1, a2⟩ := R1.im j d h2
          exact ⟨v, a1, dp_same S1.gg a2⟩
        · obtain ⟨v, a1, a2⟩ := R.im j d h2
          rw [wipe_out h1] at a1
          exact ⟨v, a1, a2⟩
      · obtain ⟨h1, h2⟩ := ac1 z
        obtain ⟨p, w, a1, a2⟩ := R.ac j dj h2
        rw [wipe_out h1] at a1
        exact ⟨p, w, a1, a2⟩
      · obtain ⟨h1, h2⟩ := ac1 z1
        obtain ⟨h3, h4⟩ := ac1 z2
        exact R.inj j k dj dk p h2 h4 (by rw [wipe_out h1]; exact z3) (by rw [wipe_out h3]; exact z4)
      · rcases get z with ⟨h1, h2⟩ | ⟨h1, h2⟩
        · exact (R1.ot j dss h2).mono S1.gg
        · have a1 := R.ot j dss h2
          rw [wipe_out h1] at a1
          exact a1
    refine .inl ⟨stop, P G H ws RF ⟨S1.gg, S1.nw, fun a o h1 h2 => S1.hh a o h1 fun z => h2 ((own_wipe hn).mp z), kd, S1.th⟩ hG hH dv⟩
def lcGo2 (γ : PyData → Ev → Option Ev) (tst : Ft) (fi1 : Fi) (γ1 : PyData → Ev → Option Ev) (tst1 : Ft) (fe : Fe) (vs vs1 : List Nat) : List PyData → Ev → List PyData → Option (List PyData × Ev)
  | [], e, acc => some (acc, e)
  | d :: ds, e, acc => match γ d e with
    | some e1 => (match tst e1 with
      | some (true, e2) => (match fi1 e2 with
        | some (ds1, e3) => if noAc e3 vs1 = true then (match lcGo γ1 tst1 fe vs1 ds1 (wipeE e3 vs1) acc with
          | some (acc1, e4) => lcGo2 γ tst fi1 γ1 tst1 fe vs vs1 ds (wipeE (restE e3 e4 vs1) vs) acc1
          | none => none) else none
        | none => none)
      | some (false, e2) => lcGo2 γ tst fi1 γ1 tst1 fe vs vs1 ds (wipeE e2 vs) acc
      | none => none)
    | none => none
def x_lc2 (fi : Fi) (γ : PyData → Ev → Option Ev) (tst : Ft) (fi1 : Fi) (γ1 : PyData → Ev → Option Ev) (tst1 : Ft) (fe : Fe) (vs vs1 : List Nat) : Fe := fun e => match fi e with
  | some (ds, e1) => if noAc e1 vs = true then (match lcGo2 γ tst fi1 γ1 tst1 fe vs vs1 ds (wipeE e1 vs) [] with
    | some (acc, e2) => some (.ac acc, restE e1 e2 vs)
    | none => none) else none
  | none => none
/-- a list that is nobody's, taken out of the heap -/
def outD (H : Hp) (D : Addr) : Hp := fun a => if a = D then none else H a
theorem out_ne {H : Hp} {D a : Addr} (h : a ≠ D) : outD H D a = H a := if_neg h
theorem out_at {H : Hp} {D : Addr} : outD H D D = none := if_pos rfl
theorem out_back {H : Hp} {D : Addr} {ws : List V} (h : H D = some (.lst ws)) : upd (outD H D) D (.lst ws) = H := by
  funext b
  by_cases z : b = D
  · rw [z, upd_same, h]
  · rw [upd_ne z, out_ne z]
theorem Rl.outD {K : PySem.W.Frag} {m : Option Addr} {E : Ef} {G0 G H : Hp} {e : Ev} {σ : St} {D : Addr} (R : Rl K m E G0 G e σ H) (hG : G D = none) (hE : E D = none) (hO : ¬ Own σ e D) : Rl K m E G0 G e σ (DL.outD H D) := by
  refine ⟨R.gg, fun b o q => ?_, fun b o q1 q2 => ?_, fun b q => ⟨(R.mh b q).1, ?_⟩, R.nw, R.len, R.im, fun i ds q => ?_, R.inj, R.ot⟩
  · rw [out_ne (ne_of_none q hG)]
    exact R.gh b o q
  · rw [out_ne (ne_of_none q1 hE)]
    exact R.eh b o q1 q2
  · have z : b ≠ D := fun z => (R.mh b q).1 (by rw [z]; exact hE)
    rw [out_ne z]
    exact (R.mh b q).2
  · obtain ⟨p, ws', h1, h2, h3, h4, h5⟩ := R.ac i ds q
    have z : p ≠ D := fun z => hO ⟨i, ds, q, by rw [← z]; exact h1⟩
    exact ⟨p, ws', h1, h2, by rw [out_ne z]; exact h3, h4, h5⟩
theorem Stp.outL {σ : St} {G H G' H' : Hp} {e e' : Ev} {D : Addr} (S : Stp σ G H e G' H' e') : Stp σ G (DL.outD H D) e G' H' e' := by
  have back : ∀ {a : Addr} {o}, DL.outD H D a = some o → a ≠ D ∧ H a = some o := fun {a o} h => by
    by_cases z : a = D
    · rw [z, out_at] at h
      cases h
    · rw [out_ne z] at h
      exact ⟨z, h⟩
  have some_ : ∀ {a : Addr}, DL.outD H D a ≠ none → H a ≠ none := fun {a} h y => by
    cases q : DL.outD H D a with
    | none => exact h q
    | some o =>
      rw [(back q).2] at y
      cases y
  exact ⟨S.gg, fun a h1 h2 => S.nw a h1 (some_ h2), fun a o h1 h2 => S.hh a o (back h1).2 h2, S.kd, fun a h1 => S.th a (some_ h1)⟩
theorem Stp.outB {σ : St} {G H G' H' : Hp} {e e' : Ev} {D : Addr} (S : Stp σ G H e G' H' e') : Stp σ G (DL.outD H D) e G' (DL.outD H' D) e' := by
  have T : Stp σ G (DL.outD H D) e G' H' e' := S.outL
  have off : ∀ {a : Addr}, DL.outD H D a ≠ none → a ≠ D := fun {a} h z => h (by rw [z]; exact out_at)
  exact ⟨T.gg, T.nw, fun a o h1 h2 => by
    rw [out_ne (off (by rw [h1]; simp))]
    exact T.hh a o h1 h2, T.kd, fun a h1 => by
    rw [out_ne (off h1)]
    exact T.th a h1⟩
theorem lc2_ok {m : Option Addr} {E : Ef} {G0 G1 H1 : Hp} {e1 : Ev} {σ : St} {ds : List PyData} {J : It} {S vs : List Nat} {γ γ1 : PyData → Ev → Option Ev} {tst tst1 : Ft} {fe : Fe} {fi1 : Fi} {wi1 : TI} {S1' vs1 : List Nat} {acc : List PyData} {eF : Ev} {K : PySem.W.Frag} {Q : VK} {D : Addr}
    (R1 : Rl K m E G0 G1 e1 σ H1) (WD : WalkD K G1 J ds) (hS : ∀ i ∈ S, i ∈ vs) (hn : noAc e1 vs = true) (hS1 : ∀ i ∈ S1', i ∈ vs1) (hk1 : ∀ (m : Option Addr) (E : Ef) (G0 G : Hp) (e : Ev) (σ : St) (H : Hp) (ds : List PyData) (e' : Ev) (Q : It → Hp → Prop), Rl K m E G0 G e σ H → fi1 e = some (ds, e') → (∀ J G' H', Rl K m E G0 G' e' σ H' → Stp σ G H e G' H' e' → WalkD K G' J ds → Q J H') → wi1 σ H Q)
    (q : lcGo2 γ tst fi1 γ1 tst1 fe vs vs1 ds (wipeE e1 vs) [] = some (acc, eF)) (hD : H1 D = none)
    (P : ∀ G H, Rl K m E G0 G (restE e1 eF vs) σ H → Stp σ G1 H1 e1 G H (restE e1 eF vs) → Vr K E G H σ (restE e1 eF vs) (.ref D) (.ac acc) → Q (.ref D) H) :
    ∃ W : Nat → Nat → Hp → Prop, (∃ mm, W 0 mm (upd H1 D (.lst []))) ∧ ∀ i mm H, W i mm H →
      (J.stop i H ∧ Q (.ref D) H) ∨ (J.go i H ∧ ∃ Nx : Hp → Prop, (∀ H', Nx H' → ∃ m', m' < mm ∧ W (i + 1) m' H') ∧ ∀ x H', J.yld i H x H' → tgOf K S γ x (L2.wipe σ vs) H' fun σ2 H2 => L2.wipe σ2 vs = L2.wipe σ vs ∧ ttOf K tst σ2 H2 fun b H3 =>
        if b = true then wi1 σ2 H3 fun J1 H4 => ∃ W1 : Nat → Nat → Hp → Prop, (∃ m, W1 0 m H4) ∧ ∀ j k H, W1 j k H →
          (J1.stop j H ∧ Nx H) ∨ (J1.go j H ∧ ∃ Nx1 : Hp → Prop, (∀ H', Nx1 H' → ∃ k', k' < k ∧ W1 (j + 1) k' H') ∧ ∀ x H', J1.yld j H x H' → tgOf K S1' γ1 x (L2.wipe σ2 vs1) H' fun σ3 H5 => L2.wipe σ3 vs1 = L2.wipe σ2 vs1 ∧ ttOf K tst1 σ3 H5 fun b H6 =>
            if b = true then teOf K fe σ3 H6 fun y H7 => ∃ acc, H7 D = some (.lst acc) ∧ acc.length < sizeLine ∧ Nx1 (upd H7 D (.lst (acc ++ [y]))) else Nx1 H6)
        else Nx H3) := by
  obtain ⟨gD, eD, oD, mD⟩ := R1.fresh hD
  let W : Nat → Nat → Hp → Prop := fun i mm H => ∃ G e ac ws, mm = ds.length - i ∧ i ≤ ds.length ∧ Rl K m E G0 G e (L2.wipe σ vs) H ∧ Stp (L2.wipe σ vs) G1 H1 (wipeE e1 vs) G H e ∧ G D = none ∧ H D = some (.lst ws) ∧ DpAll K G ws ac ∧ lcGo2 γ tst fi1 γ1 tst1 fe vs vs1 (ds.drop i) e ac = some (acc, eF)
  refine ⟨W, ⟨ds.length, G1, wipeE e1 vs, [], [], by simp, Nat.zero_le _, ?_, ?_, gD, upd_same, .nil, by simpa using q⟩, ?_⟩
  · exact ((R1.wipe vs).newL hD .nil).1
  · exact ((R1.wipe vs).newL hD (ds := []) .nil).2.1
  rintro i mm H ⟨G, e, ac, ws, rfl, hi, R, S1, hG, hH, dv, lc⟩
  -- what is nobody's
  have noD : ¬ Own (L2.wipe σ vs) e D := fun z => oD ((own_wipe hn).mp ((own_kd S1.kd).mp z))
  obtain ⟨wk, stop⟩ := WD G H S1.gg R.gh
  by_cases hlt : i < ds.length
  · have hd : ds.drop i = ds[i] :: ds.drop (i + 1) := by rw [List.drop_eq_getElem_cons hlt]
    have hget : ds[i]? = some ds[i] := List.getElem?_eq_getElem hlt
    rw [hd] at lc
    generalize ds[i] = d at lc hget hd
    obtain ⟨go, yl⟩ := wk i d hget
    refine .inr ⟨go, W (i + 1) (ds.length - (i + 1)), fun H' h => ⟨_, by omega, h⟩, fun x H' y => ?_⟩
    -- what is yielded
    have hY : ∃ G', Rl K m E G0 G' e (L2.wipe σ vs) H' ∧ Stp (L2.wipe σ vs) G H e G' H' e ∧ Dp K G' x d := by
      rcases yl x H' y with ⟨rfl, h⟩ | ⟨T, us, es, rfl, nT, rfl, rfl, h⟩
      · exact ⟨G, R, Stp.refl, h⟩
      · obtain ⟨R', S', D'⟩ := R.newT nT h
        exact ⟨_, R', S', D'⟩
    obtain ⟨G', R', S', dx⟩ := hY
    have gD' : G' D = none := S'.nw D hG (by rw [hH]; simp)
    have hD' : H' D = some (.lst ws) := S'.hh D _ hH noD
    -- the turn's own steps
    simp only [lcGo2] at lc
    cases h1 : γ d e with
    | none => simp only [h1] at lc; cases lc
    | some e2 =>
      simp only [h1] at lc
      refine ⟨m, E, G0, G', e, d, e2, R', dx, h1, fun σ' R2 out sl el ac1 => ?_⟩
      have wsame : L2.wipe σ' vs = L2.wipe σ vs := by
        have z := wipe_same (vs := vs) (σ' := σ') (σ := L2.wipe σ vs) (fun i hi => (out i fun z => hi (hS i z)).1) sl
        rw [wipe_wipe] at z
        exact z
      refine ⟨wsame, ?_⟩
      have vsE : ∀ i ∈ vs, isAc e[i]? = false := fun i hi => by
        rw [S1.kd i]
        cases z : (wipeE e1 vs)[i]? with
        | none => rfl
        | some s =>
          cases s with
          | none => rfl
          | some s => exact absurd hi (wipeE_in z)
      have own2 : ∀ a, Own σ' e2 a → Own (L2.wipe σ vs) e a := fun a ⟨j, dj, z1, z2⟩ => by
        by_cases hj : j ∈ S
        · have q1 := ac1 j hj (by rw [z1]; rfl)
          rw [vsE j (hS j hj)] at q1
          cases q1
        · obtain ⟨o1, o2⟩ := out j hj
          exact ⟨j, dj, by rw [← o2]; exact z1, by rw [← o1]; exact z2⟩
      have fin : ∀ {G5 H5 : Hp} {e5 : Ev} {ws5 : List V} {ac5 : List PyData}, Rl K m E G0 G5 e5 σ' H5 → Stp σ' G' (outD H' D) e2 G5 H5 e5 → G5 D = none → H5 D = some (.lst ws5) → DpAll K G5 ws5 ac5 → lcGo2 γ tst fi1 γ1 tst1 fe vs vs1 (ds.drop (i + 1)) (wipeE e5 vs) ac5 = some (acc, eF) →
          W (i + 1) (ds.length - (i + 1)) H5 := by
        intro G5 H5 e5 ws5 ac5 R5 S5 g5 w5 d5 lc5
        have R6 := R5.wipe vs
        rw [wsame] at R6
        refine ⟨G5, wipeE e5 vs, ac5, ws5, rfl, hlt, R6, ⟨S1.gg.trans (S'.gg.trans S5.gg), fun a h1 h2 => ?_, fun a o h1 h2 => ?_, fun j => ?_, fun a h1 => ?_⟩, g5, w5, d5, lc5⟩
        · have z : a ≠ D := fun z => h2 (by rw [z]; exact hD)
          exact S5.nw a (S'.nw a (S1.nw a h1 h2) (S1.th a h2)) (by rw [out_ne z]; exact S'.th a (S1.th a h2))
        · have z : a ≠ D := ne_of_none h1 hD
          have n1 : ¬ Own (L2.wipe σ vs) e a := fun y => h2 ((own_kd S1.kd).mp y)
          exact S5.hh a o (by rw [out_ne z]; exact S'.hh a o (S1.hh a o h1 h2) n1) fun y => n1 (own2 a y)
        · by_cases hj : j ∈ vs
          · have b1 : ∀ {e : Ev}, isAc (wipeE e vs)[j]? = false := fun {e} => by
              cases z : (wipeE e vs)[j]? with
              | none => rfl
              | some s =>
                cases s with
                | none => rfl
                | some s => exact absurd hj (wipeE_in z)
            rw [b1, b1]
          · rw [wipeE_out hj, S5.kd j, (out j fun z => hj (hS j z)).2]
            exact S1.kd j
        · by_cases z : a = D
          · rw [z, w5]
            simp
          · exact S5.th a (by rw [out_ne z]; exact S'.th a (S1.th a h1))
      cases h2 : tst e2 with
      | none => simp only [h2] at lc; cases lc
      | some z =>
        obtain ⟨b, e3⟩ := z
        cases b with
        | false =>
          simp only [h2] at lc
          refine ⟨m, E, G0, G', e2, false, e3, R2, h2, fun G3 H3 R3 S3 => ?_⟩
          show (if false = true then _ else _)
          rw [if_neg (fun z => by cases z)]
          exact fin R3 S3.outL (S3.nw D gD' (by rw [hD']; simp)) (S3.hh D _ hD' fun z => noD (own2 D z)) (dpAll_same (S'.gg.trans S3.gg) dv) lc
        | true =>
          simp only [h2] at lc
          refine ⟨m, E, G0, G', e2, true, e3, R2, h2, fun G3 H3 R3 S3 => ?_⟩
          show (if (true = true) then _ else _)
          rw [if_pos rfl]
          cases hf : fi1 e3 with
          | none => simp only [hf] at lc; cases lc
          | some z =>
            obtain ⟨ds1, e4⟩ := z
            simp only [hf] at lc
            by_cases hn1 : noAc e4 vs1 = true
            · rw [if_pos hn1] at lc
              cases hg : lcGo γ1 tst1 fe vs1 ds1 (wipeE e4 vs1) ac with
              | none => simp only [hg] at lc; cases lc
              | some z =>
                obtain ⟨acc1, e5⟩ := z
                simp only [hg] at lc
                refine hk1 m E G0 G3 e3 σ' H3 ds1 e4 _ R3 hf fun J1 G4 H4 R4 S4 W4 => ?_
                have S34 := S3.trans S4
                have nD : ¬ Own σ' e4 D := fun z => noD (own2 D ((own_kd S34.kd).mp z))
                have w4 : H4 D = some (.lst ws) := S34.hh D _ hD' fun z => noD (own2 D z)
                have g4 : G4 D = none := S34.nw D gD' (by rw [hD']; simp)
                have inner := lcF_ok (Z := W (i + 1) (ds.length - (i + 1))) (R4.outD g4 eD nD) W4 hS1 hn1 hg out_at (dpAll_same (S'.gg.trans S34.gg) dv) fun G5 H5 ws5 R5 S5 g5 w5 d5 => fin R5 (S34.outB.trans S5) g5 w5 d5 lc
                rw [out_back w4] at inner
                exact inner
            · rw [if_neg hn1] at lc
              cases lc
  · have hi2 : i = ds.length := by omega
    subst hi2
    rw [List.drop_length] at lc
    simp only [lcGo2, Option.some.injEq, Prod.mk.injEq] at lc
    obtain ⟨rfl, rfl⟩ := lc
    have hl : e.length = e1.length := by
      have z1 := R.len
      have z2 := R1.len
      rw [wipe_length] at z1
      omega
    have vsE : ∀ i ∈ vs, isAc e[i]? = false := fun i hi => by
      rw [S1.kd i]
      cases z : (wipeE e1 vs)[i]? with
      | none => rfl
      | some s =>
        cases s with
        | none => rfl
        | some s => exact absurd hi (wipeE_in z)
    have kd : ∀ j : Nat, isAc (restE e1 e vs)[j]? = isAc e1[j]? := fun j => by
      by_cases hj : j ∈ vs
      · rw [restE_in hl hj]
      · rw [restE_out hj, S1.kd j, wipeE_out hj]
    have get : ∀ {j : Nat} {s : Sl}, (restE e1 e vs)[j]? = some (some s) → (j ∈ vs ∧ e1[j]? = some (some s)) ∨ (j ∉ vs ∧ e[j]? = some (some s)) := fun {j s} z => by
      by_cases hj : j ∈ vs
      · rw [restE_in hl hj] at z
        exact .inl ⟨hj, z⟩
      · rw [restE_out hj] at z
        exact .inr ⟨hj, z⟩
    have ac1 : ∀ {j : Nat} {dj : List PyData}, (restE e1 e vs)[j]? = some (some (.ac dj)) → j ∉ vs ∧ e[j]? = some (some (.ac dj)) := fun {j dj} z => by
      rcases get z with ⟨h1, h2⟩ | z
      · have q1 := noAc_at hn h1
        rw [h2] at q1
        cases q1
      · exact z
    have RF : Rl K m E G0 G (restE e1 e vs) σ H := by
      refine ⟨R.gg, R.gh, R.eh, R.mh, R.nw, by rw [restE_len, hl]; exact R1.len, fun j d z => ?_, fun j dj z => ?_, fun j k dj dk p z1 z2 z3 z4 => ?_, fun j dss z => ?_⟩
      · rcases get z with ⟨h1, h2⟩ | ⟨h1, h2⟩
        · obtain ⟨v, a1, a2⟩ := R1.im j d h2
          exact ⟨v, a1, dp_same S1.gg a2⟩
        · obtain ⟨v, a1, a2⟩ := R.im j d h2
          rw [wipe_out h1] at a1
          exact ⟨v, a1, a2⟩
      · obtain ⟨h1, h2⟩ := ac1 z
        obtain ⟨p, w, a1, a2⟩ := R.ac j dj h2
        rw [wipe_out h1] at a1
        exact ⟨p, w, a1, a2⟩
      · obtain ⟨h1, h2⟩ := ac1 z1
        obtain ⟨h3, h4⟩ := ac1 z2
        exact R.inj j k dj dk p h2 h4 (by rw [wipe_out h1]; exact z3) (by rw [wipe_out h3]; exact z4)
      · rcases get z with ⟨h1, h2⟩ | ⟨h1, h2⟩
        · exact (R1.ot j dss h2).mono S1.gg
        · have a1 := R.ot j dss h2
          rw [wipe_out h1] at a1
          exact a1
    refine .inl ⟨stop, P G H RF ⟨S1.gg, S1.nw, fun a o h1 h2 => S1.hh a o h1 fun z => h2 ((own_wipe hn).mp z), kd, S1.th⟩ ⟨D, ws, rfl, eD, hG, hH, dv, fun z => oD ((own_kd kd).mp z)⟩⟩
variable {elt tg it tg1 it1 : Expr} {ifs ifs1 : List Expr} {scope : Scope} {own : List (Str × Nat)} {pos spos : Pos} {fi fi1 : Fi} {S S1 vs1 : List Nat} {γ γ1 : PyData → Ev → Option Ev} {tst tst1 : Ft} {fe : Fe}
theorem x_lc2_ok {wi wi1 : TI} (hS : ∀ i ∈ S, i ∈ own.map (·.2)) (hS1 : ∀ i ∈ S1, i ∈ vs1)
    (k : ∀ (m : Option Addr) (E : Ef) (G0 G : Hp) (e : Ev) (σ : St) (H : Hp) (ds : List PyData) (e' : Ev) (Q : It → Hp → Prop), Rl X.K m E G0 G e σ H → fi e = some (ds, e') → (∀ J G' H', Rl X.K m E G0 G' e' σ H' → Stp σ G H e G' H' e' → WalkD X.K G' J ds → Q J H') → wi σ H Q)
    (k1 : ∀ (m : Option Addr) (E : Ef) (G0 G : Hp) (e : Ev) (σ : St) (H : Hp) (ds : List PyData) (e' : Ev) (Q : It → Hp → Prop), Rl X.K m E G0 G e σ H → fi1 e = some (ds, e') → (∀ J G' H', Rl X.K m E G0 G' e' σ H' → Stp σ G H e G' H' e' → WalkD X.K G' J ds → Q J H') → wi1 σ H Q)
    (m : Option Addr) (E : Ef) (G0 G : Hp) (e : Ev) (σ : St) (H : Hp) (r : Rs) (e' : Ev) (Q : VK) (R : Rl X.K m E G0 G e σ H) (q : x_lc2 fi γ tst fi1 γ1 tst1 fe (own.map (·.2)) vs1 e = some (r, e')) (P : Po X.K m E G0 σ G H e r e' Q) :
    tLc2 wi (tgOf X.K S γ) (ttOf X.K tst) wi1 (tgOf X.K S1 γ1) (ttOf X.K tst1) (teOf X.K fe) (own.map (·.2)) vs1 σ H Q := by
  unfold x_lc2 at q
  cases h1 : fi e with
  | none => simp only [h1] at q; cases q
  | some z =>
    obtain ⟨ds, e1⟩ := z
    simp only [h1] at q
    by_cases h2 : noAc e1 (own.map (·.2)) = true
    · rw [if_pos h2] at q
      cases h3 : lcGo2 γ tst fi1 γ1 tst1 fe (own.map (·.2)) vs1 ds (wipeE e1 (own.map (·.2))) [] with
      | none => simp only [h3] at q; cases q
      | some z =>
        obtain ⟨acc, e2⟩ := z
        simp only [h3, Option.some.injEq, Prod.mk.injEq] at q
        obtain ⟨rfl, rfl⟩ := q
        refine k m E G0 G e σ H ds e1 _ R h1 fun J G1 H1 R1 S1' W1 D hD => ?_
        exact lc2_ok R1 W1 hS h2 hS1 k1 h3 hD fun G2 H2 R2 S2 V2 => P _ G2 H2 R2 (S1'.trans S2) V2 (nw_back S1' _ fun p z => by
          cases z
          exact hD)
    · rw [if_neg h2] at q
      cases q
/-- a source, by what it gives -/
def wiOf (K : PySem.W.Frag) (f : Fi) : TI := fun σ H Q => ∃ m E G0 G e ds e', Rl K m E G0 G e σ H ∧ f e = some (ds, e') ∧ ∀ J G' H', Rl K m E G0 G' e' σ H' → Stp σ G H e G' H' e' → WalkD K G' J ds → Q J H'
theorem ID.can {X : Cx} {tg it : Expr} {f : Fi} (h : ID X tg it f) : PI X tg it (wiOf X.K f) := by
  obtain ⟨wi, p, k⟩ := h
  exact ⟨fun pins s σ H Q I ⟨m, E, G0, G, e, ds, e', R, q, P⟩ => p.run pins s σ H Q I (k m E G0 G e σ H ds e' Q R q P)⟩
/-- [elt for tg in it if .. for tg1 in it1 if ..] -/
theorem ed_lc2 (hc : X.calm = true) (hN : X.N.Nodup) (hi : ID X tg it fi) (ok : blkC X.N X.env.scope scope own = true) (hv : ∀ i ∈ vs1, i ∈ own.map (·.2)) (hS : ∀ i ∈ S, i ∈ own.map (·.2)) (hS1 : ∀ i ∈ S1, i ∈ vs1)
    (hg : ∀ (s : Shared) (H : Hp) (C : Addr) (cl : List (Str × Addr)) (fp : List Addr), GD (X.blk s H scope (compEnvC scope cl C X.env) fp) tg S γ) (ht : ∀ (s : Shared) (H : Hp) (C : Addr) (cl : List (Str × Addr)) (fp : List Addr), PTD (X.blk s H scope (compEnvC scope cl C X.env) fp) ifs tst)
    (hi1 : ∀ (s : Shared) (H : Hp) (C : Addr) (cl : List (Str × Addr)) (fp : List Addr), ID (X.blk s H scope (compEnvC scope cl C X.env) fp) tg1 it1 fi1)
    (hg1 : ∀ (s : Shared) (H : Hp) (C : Addr) (cl : List (Str × Addr)) (fp : List Addr), GD (X.blk s H scope (compEnvC scope cl C X.env) fp) tg1 S1 γ1) (ht1 : ∀ (s : Shared) (H : Hp) (C : Addr) (cl : List (Str × Addr)) (fp : List Addr), PTD (X.blk s H scope (compEnvC scope cl C X.env) fp) ifs1 tst1)
    (he : ∀ (s : Shared) (H : Hp) (C : Addr) (cl : List (Str × Addr)) (fp : List Addr), ED (X.blk s H scope (compEnvC scope cl C X.env) fp) elt fe) (hs : ∀ x, foldedSetIterable it X.env x = pure x := by intro _; rfl) (hs1 : ∀ env x, foldedSetIterable it1 env x = pure x := by intro _ _; rfl) :
    ED X (.ListComp elt [⟨tg, it, ifs, 0⟩, ⟨tg1, it1, ifs1, 0⟩] scope pos) (x_lc2 fi γ tst fi1 γ1 tst1 fe (own.map (·.2)) vs1) := by
  obtain ⟨wi, pi, k⟩ := hi
  exact ⟨_, pe_lc2 hc hN pi (blkOk_by ok) hv (fun s H C cl fp => (hg s H C cl fp).can) (fun s H C cl fp => (ht s H C cl fp).ex) (wi1 := wiOf X.K fi1) (fun s H C cl fp => (hi1 s H C cl fp).can) (fun s H C cl fp => (hg1 s H C cl fp).can) (fun s H C cl fp => (ht1 s H C cl fp).ex) (fun s H C cl fp => (he s H C cl fp).can) hs hs1, x_lc2_ok hS hS1 k fun m E G0 G e σ H ds e' Q R q P => ⟨m, E, G0, G, e, ds, e', R, q, P⟩⟩
end
end DL
namespace DL
open L2 PySem PySem.Spec PySem.W PyProof.Rows
section
variable {K : PySem.W.Frag} {m : Option Addr} {E : Ef} {G0 G H : Hp} {e : Ev} {σ : St} {p : Addr} {i : Nat}
theorem Rl.newG {o : HO} (R : Rl K m E G0 G e σ H) (h : H p = none) :
    Rl K m E G0 (upd G p o) e σ (upd H p o) ∧ Stp σ G H e (upd G p o) (upd H p o) e := by
  obtain ⟨hG, hE, hO, hm⟩ := R.fresh h
  have s1 : Same G (upd G p o) := same_new hG
  have nb : ∀ {b : Addr}, H b ≠ none → b ≠ p := fun {b} z y => z (by rw [y]; exact h)
  refine ⟨⟨R.gg.trans s1, fun b u z => ?_, fun b u b1 b2 => ?_, fun b b1 => ⟨(R.mh b b1).1, ?_⟩, fun b b1 b2 => ?_, R.len, fun i d z => ?_, fun i ds' z => ?_, R.inj, fun i dss z => (R.ot i dss z).mono s1⟩, ⟨s1, fun b b1 b2 => ?_, fun b u b1 _ => same_new h b u b1, fun _ => rfl, fun b b1 => ?_⟩⟩
  · by_cases y : b = p
    · subst y
      rw [upd_same] at z ⊢
      exact z
    · rw [upd_ne y] at z ⊢
      exact R.gh b u z
  · exact same_new h b u (R.eh b u b1 b2)
  · rw [upd_ne (nb (R.mh b b1).2)]
    exact (R.mh b b1).2
  · have y : b ≠ p := fun y => b2 (by rw [y]; exact hE)
    rw [upd_ne y]
    exact R.nw b b1 b2
  · obtain ⟨u, z1, z2⟩ := R.im i d z
    exact ⟨u, z1, dp_same s1 z2⟩
  · obtain ⟨p', ws', z1, z2, z3, z4, z5⟩ := R.ac i ds' z
    have y : p' ≠ p := nb (by rw [z3]; simp)
    exact ⟨p', ws', z1, by rw [upd_ne y]; exact z2, by rw [upd_ne y]; exact z3, dpAll_same s1 z4, z5⟩
  · rw [upd_ne (nb b2)]
    exact b1
  · rw [upd_ne (nb b1)]
    exact b1
theorem Rl.setO {dss : Ok} (R : Rl K m E G0 G e σ H) (h : ObF K G (some (some (.ref p))) dss) : Rl K m E G0 G (e.set i (some (.ob dss))) (σ.set i (some (.ref p))) H := by
  have hl := R.len
  have keep : ∀ {j : Nat} {s : Sl}, (e.set i (some (.ob dss)))[j]? = some (some s) → (∀ d, s ≠ .ob d) → e[j]? = some (some s) ∧ (σ.set i (some (V.ref p)))[j]? = σ[j]? := fun {j s} z ns => by
    rw [set_get] at z ⊢
    by_cases y : i = j ∧ j < e.length
    · rw [if_pos y] at z
      cases z
      exact absurd rfl (ns dss)
    · rw [if_neg y] at z
      exact ⟨z, if_neg (by omega)⟩
  refine ⟨R.gg, R.gh, R.eh, R.mh, R.nw, by rw [List.length_set, List.length_set]; exact hl, fun j d z => ?_, fun j ds z => ?_, fun j k dj dk q1 z1 z2 z3 z4 => ?_, fun j ds z => ?_⟩
  · obtain ⟨a1, a2⟩ := keep z fun _ y => by cases y
    rw [a2]
    exact R.im j d a1
  · obtain ⟨a1, a2⟩ := keep z fun _ y => by cases y
    rw [a2]
    exact R.ac j ds a1
  · obtain ⟨a1, a2⟩ := keep z1 fun _ y => by cases y
    obtain ⟨b1, b2⟩ := keep z2 fun _ y => by cases y
    rw [a2] at z3
    rw [b2] at z4
    exact R.inj j k dj dk q1 a1 b1 z3 z4
  · rw [set_get] at z ⊢
    by_cases y : i = j ∧ j < e.length
    · rw [if_pos y] at z
      cases z
      rw [if_pos ⟨y.1, by omega⟩]
      exact h
    · rw [if_neg y] at z
      rw [if_neg (by omega)]
      exact R.ot j ds z
theorem Rz.setO {k : Ok} (R : Rz K m E G0 G e σ H) (h : ObF K G (some (some (.ref p))) k) (ok : okS [i] e = true) : Rz K m E G0 G (e.set i (some (.ob k))) (σ.set i (some (.ref p))) H :=
  ⟨R.r.setO h, fun q z => by
    obtain ⟨z1, z2⟩ := R.z q z
    have n : i ≠ 0 := fun y => okS_no ok z1 (by rw [y]; exact List.mem_singleton.mpr rfl)
    rw [List.getElem?_set_ne n, List.getElem?_set_ne n]
    exact ⟨z1, z2⟩⟩
end
end DL
namespace DL
open L2 PySem PySem.Spec PySem.W PyProof.Rows
end DL
namespace DL
open L2 PySem PySem.Spec PySem.W PyProof.Rows
abbrev tp {α : Type} (f : α → PyData) (l : List α) : PyData := .tuple (l.map f)
abbrev ls {α : Type} (f : α → PyData) (l : List α) : PyData := .list (l.map f)
abbrev p2 {α β : Type} (f : α → PyData) (g : β → PyData) (x : α × β) : PyData := .tuple [f x.1, g x.2]
abbrev p3 {α β γ : Type} (f : α → PyData) (g : β → PyData) (h : γ → PyData) (x : α × β × γ) : PyData := .tuple [f x.1, g x.2.1, h x.2.2]
def opt {α : Type} (f : α → PyData) : Option α → PyData
  | none => .none
  | some a => f a
abbrev nn (_ : Unit) : PyData := .none
abbrev idD (d : PyData) : PyData := d
abbrev imo (o : Option PyData) : Option Sl := o.map Sl.im
theorem bnd {α β : Type} {o : Option α} {k : α → Option β} {b : β} (h : o.bind k = some b) : ∃ a, o = some a ∧ k a = some b := by
  cases o with
  | none => cases h
  | some a => exact ⟨a, rfl, h⟩
theorem if1 {α : Type} {c : Bool} {a b : α} (h : c = true) : (if c = true then a else b) = a := if_pos h
theorem if0 {α : Type} {c : Bool} {a b : α} (h : c = false) : (if c = true then a else b) = b := if_neg (by rw [h]; exact Bool.false_ne_true)
class EqE {α : Type} [DecidableEq α] (f : α → PyData) where
  d : Nat
  can : ∀ a, PyData.canLay0 (f a) = true
  dep : ∀ a, (f a).depth ≤ d
  eqv : ∀ a b, PyData.eqv (f a) (f b) = decide (a = b)
instance : EqE PyData.int := ⟨0, fun a => by rw [PyData.canLay0], fun a => by rw [PyData.depth]; omega, fun a b => by rw [PyData.eqv]; exact Bool.eq_iff_iff.mpr (by simp)⟩
instance : EqE PyData.bool := ⟨0, fun a => by rw [PyData.canLay0], fun a => by rw [PyData.depth]; omega, fun a b => by rw [PyData.eqv]; exact Bool.eq_iff_iff.mpr (by simp)⟩
instance : EqE nn := ⟨0, fun a => by rw [PyData.canLay0], fun a => by rw [PyData.depth]; omega, fun a b => by rw [PyData.eqv]; rfl⟩
section
variable {α : Type} [DecidableEq α] {f : α → PyData} [E : EqE f]
theorem can_all : ∀ l : List α, PyData.canLayAll0 (l.map f) = true
  | [] => by rw [List.map_nil, PyData.canLayAll0]
  | a :: l => by rw [List.map_cons, PyData.canLayAll0, can_all l, E.can]; rfl
theorem dep_all : ∀ l : List α, PyData.depthAll (l.map f) ≤ E.d
  | [] => by rw [List.map_nil, PyData.depthAll]; omega
  | a :: l => by
    rw [List.map_cons, PyData.depthAll]
    have := dep_all l
    have := E.dep a
    omega
theorem eqv_all : ∀ l m : List α, PyData.eqvAll (l.map f) (m.map f) = decide (l = m)
  | [], [] => by rw [List.map_nil, PyData.eqvAll]; rfl
  | [], b :: m => by simp [PyData.eqvAll]
  | a :: l, [] => by simp [PyData.eqvAll]
  | a :: l, b :: m => by
    rw [List.map_cons, List.map_cons, PyData.eqvAll, eqv_all l m, E.eqv]
    exact Bool.eq_iff_iff.mpr (by simp)
end
instance {α : Type} [DecidableEq α] {f : α → PyData} [E : EqE f] : EqE (tp f) := ⟨E.d + 1, fun a => by rw [PyData.canLay0]; exact can_all a, fun a => by rw [PyData.depth]; have := dep_all (f := f) a; omega, fun a b => by rw [PyData.eqv]; exact eqv_all a b⟩
instance {α : Type} [DecidableEq α] {f : α → PyData} [E : EqE f] : EqE (ls f) := ⟨E.d + 1, fun a => by rw [PyData.canLay0]; exact can_all a, fun a => by rw [PyData.depth]; have := dep_all (f := f) a; omega, fun a b => by rw [PyData.eqv]; exact eqv_all a b⟩
instance {α β : Type} [DecidableEq α] [DecidableEq β] {f : α → PyData} {g : β → PyData} [E : EqE f] [F : EqE g] : EqE (p2 f g) := ⟨max E.d F.d + 1, fun a => by simp [PyData.canLay0, PyData.canLayAll0, E.can, F.can], fun a => by
    rw [PyData.depth, PyData.depthAll, PyData.depthAll, PyData.depthAll]
    have := E.dep a.1
    have := F.dep a.2
    omega, fun a b => by
    rw [PyData.eqv, PyData.eqvAll, PyData.eqvAll, PyData.eqvAll, E.eqv, F.eqv]
    obtain ⟨a1, a2⟩ := a
    obtain ⟨b1, b2⟩ := b
    exact Bool.eq_iff_iff.mpr (by simp)⟩
instance {α β γ : Type} [DecidableEq α] [DecidableEq β] [DecidableEq γ] {f : α → PyData} {g : β → PyData} {h : γ → PyData} [E : EqE f] [F : EqE g] [G : EqE h] : EqE (p3 f g h) := ⟨max E.d (max F.d G.d) + 1, fun a => by simp [PyData.canLay0, PyData.canLayAll0, E.can, F.can, G.can], fun a => by
    rw [PyData.depth, PyData.depthAll, PyData.depthAll, PyData.depthAll, PyData.depthAll]
    have := E.dep a.1
    have := F.dep a.2.1
    have := G.dep a.2.2
    omega, fun a b => by
    rw [PyData.eqv, PyData.eqvAll, PyData.eqvAll, PyData.eqvAll, PyData.eqvAll, E.eqv, F.eqv, G.eqv]
    obtain ⟨a1, a2, a3⟩ := a
    obtain ⟨b1, b2, b3⟩ := b
    exact Bool.eq_iff_iff.mpr (by simp)⟩
section
variable {α : Type} [DecidableEq α] {f : α → PyData} [E : EqE f]
theorem shp1 (h : E.d ≤ 64) (a : α) : SeqAt.shaped (f a) = true := by
  unfold SeqAt.shaped
  rw [E.can, Bool.true_and, decide_eq_true_eq]
  exact Nat.le_trans (E.dep a) h
theorem o_eq (h : E.d ≤ 64) (a b : α) : p_eq (f a) (f b) = some (.im (.bool (decide (a = b)))) := by
  unfold p_eq
  rw [shp1 h, shp1 h, E.eqv]
  rfl
end
class Nn {α : Type} (f : α → PyData) : Prop where
  n : ∀ a, p_isN false (f a) .none = some (.bool false) ∧ p_isN true (f a) .none = some (.bool true)
instance : Nn PyData.int := ⟨fun _ => ⟨rfl, rfl⟩⟩
instance : Nn PyData.bool := ⟨fun _ => ⟨rfl, rfl⟩⟩
instance : Nn PyData.str := ⟨fun _ => ⟨rfl, rfl⟩⟩
instance {α : Type} {f : α → PyData} : Nn (tp f) := ⟨fun _ => ⟨rfl, rfl⟩⟩
instance {α : Type} {f : α → PyData} : Nn (ls f) := ⟨fun _ => ⟨rfl, rfl⟩⟩
instance {α β : Type} {f : α → PyData} {g : β → PyData} : Nn (p2 f g) := ⟨fun _ => ⟨rfl, rfl⟩⟩
instance {α β γ : Type} {f : α → PyData} {g : β → PyData} {h : γ → PyData} : Nn (p3 f g h) := ⟨fun _ => ⟨rfl, rfl⟩⟩
section
variable {α β : Type} {f : α → PyData} {l m r : List α} {a : α} {i j k : Int}
theorem atI_map : atI (l.map f) i = (atI l i).map f := by
  unfold atI
  rw [List.length_map]
  cases ixN l.length i with
  | none => rfl
  | some j => exact List.getElem?_map
theorem o_ixT (h : atI l i = some a) : p_ix (tp f l) (.int i) = some (.im (f a)) := by
  show (atI (l.map f) i).map Rs.im = _
  rw [atI_map, h]
  rfl
theorem o_ixL (h : atI l i = some a) : p_ix (ls f l) (.int i) = some (.im (f a)) := by
  show (atI (l.map f) i).map Rs.im = _
  rw [atI_map, h]
  rfl
def mulO (i j : Int) : Option Int := if (mulC i j || mulWC i j) = true then some (i * j) else none
theorem o_mul (h : mulO i j = some k) : p_mul (.int i) (.int j) = some (.im (.int k)) := by
  unfold mulO at h
  unfold p_mul orF d_int2
  by_cases z : mulC i j = true
  · rw [z, Bool.true_or, if_pos rfl] at h
    cases h
    simp only [z, if_true]
    rfl
  · have z := Bool.eq_false_iff.mpr z
    rw [z, Bool.false_or] at h
    by_cases y : mulWC i j = true
    · rw [if_pos y] at h
      cases h
      simp only [z, y]
      rfl
    · rw [if_neg y] at h
      cases h
def divO (i j : Int) : Option Int := if 0 < j ∧ j.natAbs.log2 < 9000 then some (i / j) else none
theorem o_div (h : divO i j = some k) : p_div (.int i) (.int j) = some (.im (.int k)) := by
  unfold divO at h
  by_cases z : 0 < j ∧ j.natAbs.log2 < 9000
  · rw [if_pos z] at h
    cases h
    exact e_divW z.1 z.2
  · rw [if_neg z] at h
    cases h
def modO (i j : Int) : Option Int := if 0 < j then some (i % j) else none
theorem o_mod (h : modO i j = some k) : p_mod (.int i) (.int j) = some (.im (.int k)) := by
  unfold modO at h
  by_cases z : 0 < j
  · rw [if_pos z] at h
    cases h
    exact e_mod z
  · rw [if_neg z] at h
    cases h
def powO (i j : Int) : Option Int := if powC i j = true then some (i ^ j.toNat) else none
theorem o_pow (h : powO i j = some k) : p_pow (.int i) (.int j) = some (.im (.int k)) := by
  unfold powO at h
  by_cases z : powC i j = true
  · rw [if_pos z] at h
    cases h
    unfold p_pow d_int2
    simp only [z, if_true]
    rfl
  · rw [if_neg z] at h
    cases h
def catO (l m : List α) : Option (List α) := if l.length + m.length ≤ 16777216 then some (l ++ m) else none
theorem o_catT (h : catO l m = some r) : p_add (tp f l) (tp f m) = some (.im (tp f r)) := by
  unfold catO at h
  by_cases z : l.length + m.length ≤ 16777216
  · rw [if_pos z] at h
    cases h
    rw [e_catT (by rw [List.length_map, List.length_map]; exact z)]
    show _ = some (Rs.im (.tuple ((l ++ m).map f)))
    rw [List.map_append]
  · rw [if_neg z] at h
    cases h
theorem o_catL (h : catO l m = some r) : p_add (ls f l) (ls f m) = some (.ac (r.map f)) := by
  unfold catO at h
  by_cases z : l.length + m.length ≤ 16777216
  · rw [if_pos z] at h
    cases h
    rw [e_cat (by rw [List.length_map, List.length_map]; exact z), List.map_append]
  · rw [if_neg z] at h
    cases h
theorem cut_map {lo hi : Option Int} : cutD (l.map f) lo hi = (cutD l lo hi).map f := by
  unfold cutD
  rw [List.length_map, ← List.map_drop, ← List.map_take]
theorem o_lenT : c_len [tp f l] = some (.im (.int l.length)) := by
  show some (Rs.im (.int ((l.map f).length : Nat))) = _
  rw [List.length_map]
theorem o_lenL : c_len [ls f l] = some (.im (.int l.length)) := by
  show some (Rs.im (.int ((l.map f).length : Nat))) = _
  rw [List.length_map]
theorem o_allL {l : List Bool} : c_all [ls PyData.bool l] = some (.im (.bool (l.all id))) := n_all0
theorem o_sortedL {l : List Int} : c_sortedA [ls PyData.int l] = some (.ac ((upI l).map PyData.int)) := by
  have q : c_sortedI [ls PyData.int l] = some (.ac ((upI l).map PyData.int)) := by
    unfold c_sortedI c_intsL
    dsimp only
    rw [unI_ints]
  unfold c_sortedA orC
  rw [q]
theorem o_int : c_int [.int i] = some (.im (.int i)) := rfl
theorem o_intB {b : Bool} : c_int [.bool b] = some (.im (.int (if b = true then 1 else 0))) := rfl
theorem o_abs : c_abs [.int i] = some (.im (.int (if i < 0 then -i else i))) := rfl
theorem o_min2 : c_min2 [.int i, .int j] = some (.im (.int (min i j))) := n_min2
def rngO (i j : Int) : Option (List Int) := if (rgC i && rgC j) = true then some ((List.range (j - i).toNat).map fun (k : Nat) => i + (k : Int)) else none
def rng1O (j : Int) : Option (List Int) := if rgC j = true then some ((List.range j.toNat).map fun (k : Nat) => (k : Int)) else none
def repO (l : List α) (k : Int) : Option (List α) := if (okLen l.length && (decide (-9223372036854775808 ≤ k ∧ k < 9223372036854775808) && okLen (l.length * k.toNat))) = true then some (List.replicate k.toNat l).flatten else none
def enumL (l : List α) : List (Int × α) := (List.range l.length).zipWith (fun (i : Nat) a => ((i : Int), a)) l
theorem enum_typed : enumD (l.map f) = (enumL l).map (p2 PyData.int f) := by
  unfold enumD enumL
  rw [List.length_map, List.map_zipWith, List.zipWith_map_right]
def lcO {γ : Type} (p : α → Option Bool) (g : α → Option γ) : List α → Option (List γ)
  | [] => some []
  | a :: l => (p a).bind fun b => if b = true then (g a).bind fun c => (lcO p g l).bind fun cs => some (c :: cs) else lcO p g l
def lcC {γ : Type} (p : α → Option Bool) (g : α → Option γ) (l : List α) : Option (List γ) := if l.length ≤ 16777216 then lcO p g l else none
def andO (a : Bool) (o : Option Bool) : Option Bool := if a = true then o else some false
def orO (a : Bool) (o : Option Bool) : Option Bool := if a = true then some true else o
def appO (l : List α) (a : α) : Option (List α) := if l.length + 1 ≤ 16777216 then some (l ++ [a]) else none
end
section
variable {x y z : Fe} {c d : Ft} {e e1 e2 e3 : Ev} {r r1 r2 r3 : Rs} {a b : PyData} {ds : List PyData} {fa fb : Fa}
theorem binX {φ : PyData → PyData → Option Rs} (h1 : x e = some (r1, e1)) (h2 : y e1 = some (r2, e2)) (l1 : lookR e2 (frzR r1) = some a) (l2 : lookR e2 (frzR r2) = some b) (h : φ a b = some r) : x_bin φ x y e = some (r, e2) := by
  rw [r_x_bin, r_two, h1]
  simp only [h2, look2, l1, l2, h]
theorem d0 : argsD a_nil e = some ([], e) := rfl
theorem dX (h1 : x e = some (r, e1)) (h2 : argsD fa e1 = some (ds, e2)) (l1 : lookR e2 (frzR r) = some a) : argsD (a_cons x fa) e = some (a :: ds, e2) := by
  rw [r_argsD] at h2 ⊢
  rw [r_a_cons, h1]
  dsimp only
  cases z : fa e1 with
  | none => rw [z] at h2; cases h2
  | some p =>
    obtain ⟨rs, e3⟩ := p
    rw [z] at h2
    dsimp only at h2 ⊢
    cases y : lookAll e3 rs with
    | none => rw [y] at h2; cases h2
    | some es =>
      rw [y] at h2
      cases h2
      rw [n_lookAll1, l1]
      dsimp only
      rw [y]
theorem cbX {φ : List PyData → Option Rs} (h : argsD fa e = some (ds, e1)) (k : φ ds = some r) : x_cb φ fa e = some (r, e1) := by
  rw [r_x_cb, h]
  simp only [k]
theorem isX {T : Ty} {b : Bool} (h1 : x e = some (r, e1)) (l1 : lookR e1 (frzR r) = some a) (k : isD T a = some b) : x_isi T x e = some (.im (.bool b), e1) := by
  rw [r_x_isi, h1]
  simp only [l1, k]
theorem lstX (h : argsI fa e = some (ds, e1)) (hl : ds.length ≤ 16777216) : x_lst fa e = some (.ac ds, e1) := by
  rw [r_x_lst, h]
  dsimp only
  rw [if_pos (okLen_yes hl)]
theorem notX {b : Bool} (h : x e = some (.im (.bool b), e1)) : x_not x e = some (.im (.bool (!b)), e1) := by
  rw [r_x_not, h]
theorem andX {p q : Bool} {o : Option Bool} (h : x e = some (.im (.bool p), e1)) (k : andO p o = some q) (hy : p = true → ∀ q', o = some q' → y e1 = some (.im (.bool q'), e1)) : x_and x y e = some (.im (.bool q), e1) := by
  rw [r_x_and, h]
  cases p with
  | false => cases k; rfl
  | true => exact hy rfl q k
theorem torX {p q : Bool} {o : Option Bool} (h : c e = some (p, e1)) (k : orO p o = some q) (hy : p = false → ∀ q', o = some q' → d e1 = some (q', e1)) : t_or c d e = some (q, e1) := by
  rw [r_t_or, h]
  cases p with
  | true => cases k; rfl
  | false => exact hy rfl q k
theorem ifX {α : Type} {f : α → PyData} {p : Bool} {o1 o2 : Option α} {v : α} (h : c e = some (p, e1)) (k : (if p = true then o1 else o2) = some v) (h1 : p = true → ∀ w, o1 = some w → x e1 = some (.im (f w), e2)) (h2 : p = false → ∀ w, o2 = some w → y e1 = some (.im (f w), e2)) : x_if c x y e = some (.im (f v), e2) := by
  rw [r_x_if, h]
  cases p with
  | true => exact h1 rfl v k
  | false => exact h2 rfl v k
end
section
variable {α : Type} {f : α → PyData} {x y z : Fe} {e e1 e2 e3 : Ev} {r : Rs} {i j k : Int} {l : List α} {fa : Fa}
theorem cutTX {lo hi : Option Int} {fl fh : Fo} (h : x e = some (.im (tp f l), e1)) (h1 : fl e1 = some (lo, e2)) (h2 : fh e2 = some (hi, e3)) : x_sl x fl fh e = some (.im (tp f (cutD l lo hi)), e3) := by
  rw [r_x_sl, h]
  simp only [h1, h2, frzR, lookR, sliced, cut_map]
theorem cutLX {lo hi : Option Int} {fl fh : Fo} (h : x e = some (r, e1)) (h1 : fl e1 = some (lo, e2)) (h2 : fh e2 = some (hi, e3)) (hl : lookR e3 (frzR r) = some (ls f l)) : x_sl x fl fh e = some (.ac ((cutD l lo hi).map f), e3) := by
  rw [r_x_sl, h]
  simp only [h1, h2, hl, sliced, cut_map]
theorem oA (h : x e = some (.im (.int i), e1)) : o_at x e = some (some i, e1) := by
  rw [r_o_at, h]
theorem oN : o_no e = some (none, e) := rfl
theorem repX {ds : List α} {out : List α} (h : argsI fa e = some (ds.map f, e1)) (h2 : x e1 = some (.im (.int k), e2)) (hk : repO ds k = some out) : x_rep fa x e = some (.ac (out.map f), e2) := by
  unfold repO at hk
  rw [r_x_rep, h]
  dsimp only
  rw [h2]
  dsimp only
  rw [List.length_map]
  by_cases z : (okLen ds.length && (decide (-9223372036854775808 ≤ k ∧ k < 9223372036854775808) && okLen (ds.length * k.toNat))) = true
  · rw [if_pos z] at hk ⊢
    cases hk
    rw [List.map_flatten, List.map_replicate]
  · rw [if_neg z] at hk
    cases hk
theorem rvLX (h : x e = some (r, e1)) (hl : lookR e1 (frzR r) = some (ls f l)) : x_rvs x e = some (.ac (l.reverse.map f), e1) := by
  rw [r_x_rvs, h]
  simp only [hl, List.map_reverse]
theorem seqTX (h : x e = some (.im (tp f l), e1)) : i_seq x e = some (l.map f, e1) := iseqT h
theorem seqLX (h : x e = some (.im (ls f l), e1)) : i_seq x e = some (l.map f, e1) := iseqL h
theorem seqAX (h : x e = some (.ac (l.map f), e1)) : i_seq x e = some (l.map f, e1) := iseqA h
theorem enumI (h : i_seq x e = some (l.map f, e1)) : i_enum x e = some ((enumL l).map (p2 PyData.int f), e1) := by
  rw [r_i_enum, h]
  dsimp only
  rw [enum_typed]
theorem rng_typed (n : Nat) : rngD i n 1 = ((List.range n).map fun (k : Nat) => i + (k : Int)).map PyData.int := by
  unfold rngD
  rw [List.map_map]
  refine List.map_congr_left fun k _ => ?_
  show PyData.int (i + (k : Int) * 1) = .int (i + k)
  rw [Int.mul_one]
theorem rng2I {is : List Int} (h : x e = some (.im (.int i), e1)) (h2 : y e1 = some (.im (.int j), e2)) (k : rngO i j = some is) : i_rng2 x y e = some (is.map PyData.int, e2) := by
  rw [r_i_rng2, h]
  dsimp only
  rw [h2]
  dsimp only
  unfold rngO at k
  by_cases z : (rgC i && rgC j) = true
  · rw [if_pos z] at k ⊢
    cases k
    rw [rng_typed]
  · rw [if_neg z] at k
    cases k
theorem rng1I {is : List Int} (h : x e = some (.im (.int j), e1)) (k : rng1O j = some is) : i_rng1 x e = some (is.map PyData.int, e1) := by
  rw [r_i_rng1, h]
  dsimp only
  unfold rng1O at k
  by_cases z : rgC j = true
  · rw [if_pos z] at k ⊢
    cases k
    rw [rng_typed]
    refine congrArg some (Prod.ext ?_ rfl)
    dsimp only
    congr 1
    refine List.map_congr_left fun k _ => ?_
    omega
  · rw [if_neg z] at k
    cases k
end
section
variable {X β : Type} {enc : X → PyData} {encB : β → PyData} {fi : Fi} {γ : PyData → Ev → Option Ev} {tst : Ft} {fe : Fe} {vs : List Nat} {e e1 : Ev}
theorem lcGo_typed (p : X → Option Bool) (g : X → Option β) (w : Ev) : ∀ (l : List X) (out : List β) (acc : List PyData), lcO p g l = some out → acc.length + l.length ≤ 16777216 →
    (∀ a ∈ l, ∃ a1, γ (enc a) w = some a1 ∧ wipeE a1 vs = w ∧ (∀ b, p a = some b → tst a1 = some (b, a1)) ∧ (p a = some true → ∀ c, g a = some c → ∃ z, fe a1 = some z ∧ imR (frzR z.1) = some (encB c) ∧ z.2 = a1)) →
    lcGo γ tst fe vs (l.map enc) w acc = some (acc ++ out.map encB, w)
  | [], out, acc, h, _, _ => by
    cases h
    show some (acc, _) = some (acc ++ [], _)
    rw [List.append_nil]
  | a :: l, out, acc, h, hl, k => by
    obtain ⟨b, hb, h⟩ := bnd h
    obtain ⟨a1, k1, k2, k3, k4⟩ := k a List.mem_cons_self
    rw [List.length_cons] at hl
    rw [List.map_cons]
    simp only [lcGo, k1, k3 b hb]
    cases b with
    | false =>
      rw [if_neg Bool.false_ne_true] at h
      simp only [k2]
      exact lcGo_typed p g w l out acc h (by omega) fun x m => k x (List.mem_cons_of_mem _ m)
    | true =>
      rw [if_pos rfl] at h
      obtain ⟨c, hc, h⟩ := bnd h
      obtain ⟨cs, hcs, h⟩ := bnd h
      cases h
      obtain ⟨⟨r, e3⟩, z1, z2, z3⟩ := k4 hb c hc
      simp only [z1, z2]
      dsimp only at z3
      rw [if_pos (okLen_yes (by omega)), z3, k2, lcGo_typed p g w l cs _ hcs (by simp only [List.length_append, List.length_cons, List.length_nil]; omega) fun x m => k x (List.mem_cons_of_mem _ m)]
      rw [List.map_cons, List.append_assoc]
      rfl
theorem lcX {items : List X} {p : X → Option Bool} {g : X → Option β} {out : List β} (h : lcC p g items = some out) (hi : fi e = some (items.map enc, e1)) (hn : noAc e1 vs = true)
    (k : ∀ a ∈ items, ∃ a1, γ (enc a) (wipeE e1 vs) = some a1 ∧ wipeE a1 vs = wipeE e1 vs ∧ (∀ b, p a = some b → tst a1 = some (b, a1)) ∧ (p a = some true → ∀ c, g a = some c → ∃ z, fe a1 = some z ∧ imR (frzR z.1) = some (encB c) ∧ z.2 = a1)) :
    x_lc fi γ tst fe vs e = some (.ac (out.map encB), e1) := by
  unfold lcC at h
  by_cases z : items.length ≤ 16777216
  · rw [if_pos z] at h
    unfold x_lc
    simp only [hi]
    rw [if_pos hn, lcGo_typed p g _ items out [] h (by simpa using z) k]
    simp only [rest_wipe, List.nil_append]
  · rw [if_neg z] at h
    cases h
end
section
open Classical
variable {ρ : Type}
noncomputable def chI (enc : ρ → PyData) (o : Option Rs) : Option ρ := if h : ∃ r, o = some (.im (enc r)) then some (choose h) else none
theorem chI_ok {enc : ρ → PyData} {o : Option Rs} {r : ρ} (h : chI enc o = some r) : o = some (.im (enc r)) := by
  unfold chI at h
  by_cases z : ∃ r, o = some (.im (enc r))
  · rw [dif_pos z] at h
    cases h
    exact choose_spec z
  · rw [dif_neg z] at h
    cases h
/-- what it is, where the data tell it -/
theorem chI_eq {enc : ρ → PyData} {o : Option Rs} {r : ρ} (inj : ∀ a b, enc a = enc b → a = b) (h : o = some (.im (enc r))) : chI enc o = some r := by
  have z : ∃ r, o = some (.im (enc r)) := ⟨r, h⟩
  unfold chI
  rw [dif_pos z]
  have q := h.symm.trans (choose_spec z)
  injection q with q
  injection q with q
  rw [inj _ _ q]
end
end DL
namespace DL
open L2 PySem PySem.Spec PySem.W PyProof.Rows
inductive Lp (σ ρ : Type) where
  | nx (s : σ) | bk (s : σ) | rt (r : ρ)
def PK {σ ρ : Type} (inv : σ → Ev → Prop) (rt : ρ → Rs → Ev → Prop) : Lp σ ρ → Fl → Prop
  | .nx s, .nx e => inv s e
  | .nx s, .ct e => inv s e
  | .bk s, .bk e => inv s e
  | .rt r, .rt r' e => rt r r' e
  | _, _ => False
def SK {σ : Type} (inv : σ → Ev → Prop) : σ → Fl → Prop
  | s, .nx e => inv s e
  | s, .ct e => inv s e
  | _, _ => False
def RK {ρ : Type} (rt : ρ → Rs → Ev → Prop) : ρ → Fl → Prop
  | r, .rt r' e => rt r r' e
  | r, .nx e => rt r (.im .none) e
  | _, _ => False
def forG {α σ ρ : Type} (body : α → σ → Option (Lp σ ρ)) : List α → σ → Option (Lp σ ρ)
  | [], s => some (.nx s)
  | a :: l, s => (body a s).bind fun r => match r with
    | .nx s' => forG body l s'
    | .bk s' => some (.nx s')
    | .rt r => some (.rt r)
def forS {α σ : Type} (body : α → σ → Option σ) : List α → σ → Option σ
  | [], s => some s
  | a :: l, s => (body a s).bind fun s' => forS body l s'
def whS {σ : Type} (c : σ → Option Bool) (body : σ → Option σ) : Nat → σ → Option σ
  | 0, _ => none
  | n + 1, s => (c s).bind fun b => if b = true then (body s).bind fun s' => whS c body n s' else some s
def thenL {σ ρ τ : Type} (o : Option (Lp σ ρ)) (rt : ρ → Option τ) (k : σ → Option τ) : Option τ := o.bind fun l => match l with
  | .nx s => k s
  | .bk s => k s
  | .rt r => rt r
theorem thenL_nx {σ ρ τ : Type} {o : Option (Lp σ ρ)} {s : σ} {rt : ρ → Option τ} {k : σ → Option τ} (h : o = some (.nx s)) : thenL o rt k = k s := by
  rw [h]; rfl
section
variable {f g : Fs} {e e1 e2 : Ev} {Q : Fl → Prop} {x y : Fe} {i : Nat} {ds : List PyData}
theorem t_set {α : Type} {f : α → PyData} {v w : α} (hw : some v = some w) (h : x e = some (.im (f v), e1)) (ok : okS [i] e1 = true) (q : Q (.nx (e1.set i (some (.im (f w)))))) : wS (s_setF i x) e Q := by
  cases hw
  exact w_setI h ok q
theorem t_setL {α : Type} {f : α → PyData} {v w : List α} (hw : some v = some w) (h : x e = some (.ac (v.map f), e1)) (ok : okS [i] e1 = true) (q : Q (.nx (e1.set i (some (.im (ls f w)))))) : wS (s_setF i x) e Q := by
  cases hw
  exact w_setL h ok q
theorem t_setA {α : Type} {f : α → PyData} {v w : List α} (hw : some v = some w) (h : x e = some (.ac (v.map f), e1)) (ok : okS [i] e1 = true) (q : Q (.nx (e1.set i (some (.ac (w.map f)))))) : wS (s_set i x) e Q := by
  cases hw
  exact w_setA h ok q
theorem t_app {α : Type} {f : α → PyData} {l m : List α} {a : α} (hm : appO l a = some m) (h : ∃ r, x e = some (r, e1) ∧ imR (frzR r) = some (f a)) (h0 : isAc e[i]? = true) (hi : e1[i]? = some (some (.ac (l.map f)))) (q : Q (.nx (e1.set i (some (.ac (m.map f)))))) : wS (s_drop (x_app i x)) e Q := by
  unfold appO at hm
  by_cases z : l.length + 1 ≤ 16777216
  · rw [if_pos z] at hm
    cases hm
    obtain ⟨r, h, hr⟩ := h
    refine w_drop (r := .im .none) ?_ q
    rw [r_x_app, if_pos h0, h]
    simp only [hr, hi]
    rw [if_pos (okLen_yes (by rw [List.length_map]; exact z)), List.map_append]
    rfl
  · rw [if_neg z] at hm
    cases hm
def setO (l : List Int) : Option (List Int) := if l.length + 1 < 4096 then some l else none
def JK {σ τ : Type} (inv : σ → Ev → Prop) (seg : σ → Option τ) (t : τ) (Q : Fl → Prop) : Fl → Prop
  | .nx e => ∃ s, inv s e ∧ seg s = some t
  | fl => Q fl
theorem t_join {σ τ : Type} (inv : σ → Ev → Prop) (seg : σ → Option τ) {t : τ} (K : ∀ s e, inv s e → seg s = some t → wS g e Q) (h : wS f e (JK inv seg t Q)) : wS (s_seq f g) e Q := by
  obtain ⟨fl, h1, h2⟩ := h
  refine w_seq ⟨fl, h1, ?_⟩
  cases fl with
  | nx e => obtain ⟨s, h3, h4⟩ := h2; exact K s e h3 h4
  | bk e => exact h2
  | ct e => exact h2
  | rt r e => exact h2
end
section
variable {fi : Fi} {γ : PyData → Ev → Option Ev} {S : List Nat} {fb : Fs} {e e1 : Ev} {Q : Fl → Prop}
theorem t_forG {X σ ρ : Type} (enc : X → PyData) (items : List X) (body : X → σ → Option (Lp σ ρ)) (inv : σ → Ev → Prop) (rt : ρ → Rs → Ev → Prop) {s0 : σ} {l : Lp σ ρ} (hi : fi e = some (items.map enc, e1)) (h0 : inv s0 e1) (h : forG body items s0 = some l)
    (hb : ∀ x s l, body x s = some l → ∀ e, inv s e → okS S e = true ∧ ∃ e2, γ (enc x) e = some e2 ∧ wS fb e2 (PK inv rt l))
    (q1 : ∀ s, l = .nx s → ∀ e, inv s e → Q (.nx e)) (q2 : ∀ r, l = .rt r → ∀ r' e, rt r r' e → Q (.rt r' e)) : wS (s_for fi γ S fb) e Q := by
  have go : ∀ (items : List X) (s0 : σ) (e : Ev), inv s0 e → forG body items s0 = some l → ∃ fl, forGo γ S fb (items.map enc) e = some fl ∧ Q fl := by
    intro items
    induction items with
    | nil =>
      intro s0 e h0 h
      cases h
      exact ⟨_, rfl, q1 s0 rfl e h0⟩
    | cons x items ih =>
      intro s0 e h0 h
      obtain ⟨l1, hl1, h⟩ := bnd h
      obtain ⟨k1, e2, k2, fl, k3, k4⟩ := hb x s0 l1 hl1 e h0
      rw [List.map_cons]
      simp only [forGo, k1, k2, k3, if_true]
      cases l1 with
      | nx s1 =>
        cases fl with
        | nx e3 => exact ih s1 e3 k4 h
        | ct e3 => exact ih s1 e3 k4 h
        | bk e3 => exact k4.elim
        | rt r e3 => exact k4.elim
      | bk s1 =>
        cases h
        cases fl with
        | nx e3 => exact k4.elim
        | ct e3 => exact k4.elim
        | bk e3 => exact ⟨_, rfl, q1 s1 rfl e3 k4⟩
        | rt r e3 => exact k4.elim
      | rt r =>
        cases h
        cases fl with
        | nx e3 => exact k4.elim
        | ct e3 => exact k4.elim
        | bk e3 => exact k4.elim
        | rt r' e3 => exact ⟨_, rfl, q2 r rfl r' e3 k4⟩
  obtain ⟨fl, h1, h2⟩ := go items s0 e1 h0 h
  exact ⟨fl, sf hi h1, h2⟩
theorem t_forS {X σ : Type} (enc : X → PyData) (items : List X) (body : X → σ → Option σ) (inv : σ → Ev → Prop) {s0 s : σ} (hi : fi e = some (items.map enc, e1)) (h0 : inv s0 e1) (h : forS body items s0 = some s)
    (hb : ∀ x s s', body x s = some s' → ∀ e, inv s e → okS S e = true ∧ ∃ e2, γ (enc x) e = some e2 ∧ wS fb e2 (SK inv s'))
    (q1 : ∀ e, inv s e → Q (.nx e)) : wS (s_for fi γ S fb) e Q := by
  have go : ∀ (items : List X) (s0 : σ) (e : Ev), inv s0 e → forS body items s0 = some s → ∃ fl, forGo γ S fb (items.map enc) e = some fl ∧ Q fl := by
    intro items
    induction items with
    | nil =>
      intro s0 e h0 h
      cases h
      exact ⟨_, rfl, q1 e h0⟩
    | cons x items ih =>
      intro s0 e h0 h
      obtain ⟨l1, hl1, h⟩ := bnd h
      obtain ⟨k1, e2, k2, fl, k3, k4⟩ := hb x s0 l1 hl1 e h0
      rw [List.map_cons]
      simp only [forGo, k1, k2, k3, if_true]
      cases fl with
      | nx e3 => exact ih l1 e3 k4 h
      | ct e3 => exact ih l1 e3 k4 h
      | bk e3 => exact k4.elim
      | rt r e3 => exact k4.elim
  obtain ⟨fl, h1, h2⟩ := go items s0 e1 h0 h
  exact ⟨fl, sf hi h1, h2⟩
theorem t_whS {σ : Type} {n : Ev → Nat} {tst : Ft} (c : σ → Option Bool) (body : σ → Option σ) (inv : σ → Ev → Prop) {s0 s : σ} {N : Nat} (hN : n e = N) (h0 : inv s0 e) (h : whS c body N s0 = some s)
    (hc : ∀ s b, c s = some b → ∀ e, inv s e → tst e = some (b, e))
    (hb : ∀ s s', body s = some s' → ∀ e, inv s e → wS fb e (SK inv s'))
    (q1 : ∀ e, inv s e → Q (.nx e)) : wS (s_while n tst fb) e Q := by
  have go : ∀ (N : Nat) (s0 : σ) (e : Ev), inv s0 e → whS c body N s0 = some s → ∃ fl, whGo tst fb N e = some fl ∧ Q fl := by
    intro N
    induction N with
    | zero =>
      intro s0 e h0 h
      cases h
    | succ N ih =>
      intro s0 e h0 h
      obtain ⟨b, hb1, h⟩ := bnd h
      have k0 := hc s0 b hb1 e h0
      cases b with
      | false =>
        cases h
        exact ⟨_, by simp only [whGo, k0], q1 e h0⟩
      | true =>
        rw [if_pos rfl] at h
        obtain ⟨l1, hl1, h⟩ := bnd h
        obtain ⟨fl, k3, k4⟩ := hb s0 l1 hl1 e h0
        simp only [whGo, k0, k3]
        cases fl with
        | nx e3 => exact ih l1 e3 k4 h
        | ct e3 => exact ih l1 e3 k4 h
        | bk e3 => exact k4.elim
        | rt r e3 => exact k4.elim
  unfold wS s_while
  rw [hN]
  exact go N s0 e h0 h
end
section
variable {x y : Fe} {c d : Ft} {e e1 e2 : Ev} {p q : Bool} {i : Nat} {ds : List PyData}
theorem vB (h : e[i]? = some (some (.ac ds))) : x_var i e = some (.br i, e) := by
  rw [r_x_var, h]
theorem andXt (h : x e = some (.im (.bool p), e1)) (k : y e1 = some (.im (.bool q), e1)) : x_and x y e = some (.im (.bool (p && q)), e1) := by
  rw [r_x_and, h]
  cases p with
  | false => rfl
  | true => exact k
theorem torXt (h : c e = some (p, e1)) (k : d e1 = some (q, e1)) : t_or c d e = some (p || q, e1) := by
  rw [r_t_or, h]
  cases p with
  | false => exact k
  | true => rfl
end
section
variable {ρ : Type} {n nl : Nat} {g : Fs} {ds : List PyData}
def rtI (enc : ρ → PyData) (r : ρ) (r' : Rs) (e : Ev) : Prop := finR r' e = some (.im (enc r))
def rtA (enc : ρ → PyData) (r : List ρ) (r' : Rs) (e : Ev) : Prop := finR r' e = some (.ac (r.map enc))
theorem t_fnI {enc : ρ → PyData} {r : ρ} (hl : ds.length = n) (h : wS g (env0 ds nl) (RK (rtI enc) r)) : runF n nl g ds = some (.im (enc r)) := by
  obtain ⟨fl, h1, h2⟩ := h
  unfold runF
  rw [if_pos hl, h1]
  cases fl with
  | nx e => exact h2
  | bk e => exact h2.elim
  | ct e => exact h2.elim
  | rt r e => exact h2
theorem t_fnA {enc : ρ → PyData} {r : List ρ} (hl : ds.length = n) (h : wS g (env0 ds nl) (RK (rtA enc) r)) : runF n nl g ds = some (.ac (r.map enc)) := by
  obtain ⟨fl, h1, h2⟩ := h
  unfold runF
  rw [if_pos hl, h1]
  cases fl with
  | nx e => exact h2
  | bk e => exact h2.elim
  | ct e => exact h2.elim
  | rt r e => exact h2
end
end DL
namespace DL
open L2 PySem PySem.Spec PySem.W PyProof.Rows
section
variable {X Y β : Type} {enc : X → PyData} {enc1 : Y → PyData} {encB : β → PyData} {fi fi1 : Fi} {γ γ1 : PyData → Ev → Option Ev} {tst tst1 : Ft} {fe : Fe} {vs vs1 : List Nat} {e e1 : Ev}
def lc2O (p : X → Option Bool) (i : X → Option (List Y)) (p1 : X → Y → Option Bool) (g : X → Y → Option β) : List X → Option (List β)
  | [] => some []
  | a :: l => (p a).bind fun b => if b = true then (i a).bind fun js => (lcO (p1 a) (g a) js).bind fun cs => (lc2O p i p1 g l).bind fun ds => some (cs ++ ds) else lc2O p i p1 g l
def lc2C (p : X → Option Bool) (i : X → Option (List Y)) (p1 : X → Y → Option Bool) (g : X → Y → Option β) (l : List X) : Option (List β) := (lc2O p i p1 g l).bind fun r => if r.length ≤ 16777216 then some r else none
/-- as lcGo_typed, bounded by what comes out -/
theorem lcGo_typed2 (p : X → Option Bool) (g : X → Option β) (w : Ev) : ∀ (l : List X) (out : List β) (acc : List PyData), lcO p g l = some out → acc.length + out.length ≤ 16777216 →
    (∀ a ∈ l, ∃ a1, γ (enc a) w = some a1 ∧ wipeE a1 vs = w ∧ (∀ b, p a = some b → tst a1 = some (b, a1)) ∧ (p a = some true → ∀ c, g a = some c → ∃ z, fe a1 = some z ∧ imR (frzR z.1) = some (encB c) ∧ z.2 = a1)) →
    lcGo γ tst fe vs (l.map enc) w acc = some (acc ++ out.map encB, w)
  | [], out, acc, h, _, _ => by
    cases h
    show some (acc, _) = some (acc ++ [], _)
    rw [List.append_nil]
  | a :: l, out, acc, h, hl, k => by
    obtain ⟨b, hb, h⟩ := bnd h
    obtain ⟨a1, k1, k2, k3, k4⟩ := k a List.mem_cons_self
    rw [List.map_cons]
    simp only [lcGo, k1, k3 b hb]
    cases b with
    | false =>
      rw [if_neg Bool.false_ne_true] at h
      simp only [k2]
      exact lcGo_typed2 p g w l out acc h hl fun x m => k x (List.mem_cons_of_mem _ m)
    | true =>
      rw [if_pos rfl] at h
      obtain ⟨c, hc, h⟩ := bnd h
      obtain ⟨cs, hcs, h⟩ := bnd h
      cases h
      rw [List.length_cons] at hl
      obtain ⟨⟨r, e3⟩, z1, z2, z3⟩ := k4 hb c hc
      simp only [z1, z2]
      dsimp only at z3
      rw [if_pos (okLen_yes (by omega)), z3, k2, lcGo_typed2 p g w l cs _ hcs (by simp only [List.length_append, List.length_cons, List.length_nil]; omega) fun x m => k x (List.mem_cons_of_mem _ m)]
      rw [List.map_cons, List.append_assoc]
      rfl
theorem lc2X {items : List X} {p : X → Option Bool} {i : X → Option (List Y)} {p1 : X → Y → Option Bool} {g : X → Y → Option β} {out : List β} (h : lc2C p i p1 g items = some out) (hi : fi e = some (items.map enc, e1)) (hn : noAc e1 vs = true)
    (k : ∀ a ∈ items, ∃ a1, γ (enc a) (wipeE e1 vs) = some a1 ∧ wipeE a1 vs = wipeE e1 vs ∧ (∀ b, p a = some b → tst a1 = some (b, a1)) ∧ (p a = some true → ∀ js, i a = some js → fi1 a1 = some (js.map enc1, a1) ∧ noAc a1 vs1 = true ∧ wipeE (restE a1 (wipeE a1 vs1) vs1) vs = wipeE e1 vs ∧
      ∀ c ∈ js, ∃ a2, γ1 (enc1 c) (wipeE a1 vs1) = some a2 ∧ wipeE a2 vs1 = wipeE a1 vs1 ∧ (∀ b, p1 a c = some b → tst1 a2 = some (b, a2)) ∧ (p1 a c = some true → ∀ y, g a c = some y → ∃ z, fe a2 = some z ∧ imR (frzR z.1) = some (encB y) ∧ z.2 = a2))) :
    x_lc2 fi γ tst fi1 γ1 tst1 fe vs vs1 e = some (.ac (out.map encB), e1) := by
  have go : ∀ (l : List X) (out : List β) (acc : List PyData), (∀ a ∈ l, a ∈ items) → lc2O p i p1 g l = some out → acc.length + out.length ≤ 16777216 → lcGo2 γ tst fi1 γ1 tst1 fe vs vs1 (l.map enc) (wipeE e1 vs) acc = some (acc ++ out.map encB, wipeE e1 vs) := by
    intro l
    induction l with
    | nil =>
      intro out acc _ h _
      cases h
      show some (acc, _) = some (acc ++ [], _)
      rw [List.append_nil]
    | cons a l ih =>
      intro out acc hm h hl
      obtain ⟨b, hb, h⟩ := bnd h
      obtain ⟨a1, k1, k2, k3, k4⟩ := k a (hm a List.mem_cons_self)
      rw [List.map_cons]
      simp only [lcGo2, k1, k3 b hb]
      cases b with
      | false =>
        rw [if_neg Bool.false_ne_true] at h
        simp only [k2]
        exact ih out acc (fun x m => hm x (List.mem_cons_of_mem _ m)) h hl
      | true =>
        rw [if_pos rfl] at h
        obtain ⟨js, hjs, h⟩ := bnd h
        obtain ⟨cs, hcs, h⟩ := bnd h
        obtain ⟨ds, hds, h⟩ := bnd h
        cases h
        rw [List.length_append] at hl
        obtain ⟨m1, m2, m3, m4⟩ := k4 hb js hjs
        simp only [m1]
        rw [if_pos m2, lcGo_typed2 (p1 a) (g a) _ js cs acc hcs (by omega) m4]
        dsimp only
        rw [m3, ih ds _ (fun x m => hm x (List.mem_cons_of_mem _ m)) hds (by rw [List.length_append, List.length_map]; omega), List.map_append, List.append_assoc]
  obtain ⟨r, hr, h⟩ := bnd h
  by_cases z : r.length ≤ 16777216
  · rw [if_pos z] at h
    cases h
    unfold x_lc2
    simp only [hi]
    rw [if_pos hn, go items _ [] (fun _ m => m) hr (by simpa using z)]
    simp only [rest_wipe, List.nil_append]
  · rw [if_neg z] at h
    cases h
end
end DL
namespace DL
open PySem PySem.Spec PyProof.Rows L2
structure Xc where
  c : Str
  fs : List (Str × PyData)
abbrev Ex (α : Type) := α ⊕ (Xc × Ev)
abbrev Fsx := Ev → Option (Ex Fl)
abbrev Fex := Ev → Option (Ex (Rs × Ev))
/-- its dict -/
def FsAt (K : PySem.W.Frag) (G : Hp) (fs : List (Str × V)) (ds : List (Str × PyData)) : Prop := fs.map (·.1) = ds.map (·.1) ∧ DpAll K G (fs.map (·.2)) (ds.map (·.2))
def XcAt (K : PySem.W.Frag) (mg : Str → Option Value) (G : Hp) (cls : Value) (d : Option Addr) (x : Xc) : Prop := ∃ (C dd : Addr) (fs : List (Str × V)), mg x.c = some (.ref C) ∧ cls = .ref C ∧ d = some dd ∧ G dd = some (.xd fs) ∧ FsAt K G fs x.fs
theorem FsAt.same {K : PySem.W.Frag} {G G' : Hp} {fs : List (Str × V)} {ds : List (Str × PyData)} (h : FsAt K G fs ds) (s : Same G G') : FsAt K G' fs ds := ⟨h.1, dpAll_same s h.2⟩
theorem XcAt.same {K : PySem.W.Frag} {mg : Str → Option Value} {G G' : Hp} {cls : Value} {d : Option Addr} {x : Xc} (h : XcAt K mg G cls d x) (s : Same G G') : XcAt K mg G' cls d x := by
  obtain ⟨C, dd, fs, h1, h2, h3, h4, h5⟩ := h
  exact ⟨C, dd, fs, h1, h2, h3, s dd _ h4, h5.same s⟩
def PoX (K : PySem.W.Frag) (mg : Str → Option Value) (m : Option Addr) (E : Ef) (G0 G : Hp) (D : Ends) (W : WX) : Ex Fl → Prop
  | .inl fl => PoS K m E G0 G D fl
  | .inr (x, e) => ∀ cls d G' σ H, Same G G' → Rz K m E G0 G' e σ H → XcAt K mg G' cls d x → W cls d σ H
theorem PoX.aft {K : PySem.W.Frag} {mg : Str → Option Value} {m : Option Addr} {E : Ef} {G0 G G' : Hp} {D : Ends} {W : WX} {o : Ex Fl} (P : PoX K mg m E G0 G D W o) (s : Same G G') : PoX K mg m E G0 G' D W o := by
  cases o with
  | inl fl => exact PoS.aft P s
  | inr y => exact fun cls d G2 σ H s2 R X => P cls d G2 σ H (s.trans s2) R X
/-- the weakest reading -/
def tsX (K : PySem.W.Frag) (mg : Str → Option Value) (f : Fsx) (W : WX) : TS := fun D σ H => ∃ m E G0 G e o, Rz K m E G0 G e σ H ∧ f e = some o ∧ PoX K mg m E G0 G D W o
structure SDX (X : Cx) (W : WX) (st : Stmt) (f : Fsx) : Prop where
  run : PS X st (tsX X.K X.mg f W)
structure SsDX (X : Cx) (W : WX) (sts : List Stmt) (f : Fsx) : Prop where
  run : PSs X sts (tsX X.K X.mg f W)
def PoE (K : PySem.W.Frag) (mg : Str → Option Value) (m : Option Addr) (E : Ef) (G0 : Hp) (σ : St) (G H : Hp) (e : Ev) (W : WX) (Q : VK) : Ex (Rs × Ev) → Prop
  | .inl (r, e') => Po K m E G0 σ G H e r e' Q
  | .inr (x, e') => ∀ cls d G' H', Rl K m E G0 G' e' σ H' → Stp σ G H e G' H' e' → XcAt K mg G' cls d x → W cls d σ H'
def teX (K : PySem.W.Frag) (mg : Str → Option Value) (f : Fex) (W : WX) : TE := fun σ H Q => ∃ m E G0 G e o, Rl K m E G0 G e σ H ∧ f e = some o ∧ PoE K mg m E G0 σ G H e W Q o
structure EDX (X : Cx) (W : WX) (x : Expr) (f : Fex) : Prop where
  run : PE X x (teX X.K X.mg f W)
theorem ps_imp {X : Cx} {st : Stmt} {t u : TS} (h : PS X st t) (k : ∀ D σ H, u D σ H → t D σ H) : PS X st u := ⟨fun pins s σ H D I q => h.run pins s σ H D I (k D σ H q)⟩
theorem pss_imp {X : Cx} {st : List Stmt} {t u : TS} (h : PSs X st t) (k : ∀ D σ H, u D σ H → t D σ H) : PSs X st u := ⟨fun pins s σ H D I q => h.run pins s σ H D I (k D σ H q)⟩
theorem pe_imp {X : Cx} {x : Expr} {t u : TE} (h : PE X x t) (k : ∀ σ H Q, u σ H Q → t σ H Q) : PE X x u := ⟨fun pins s σ H Q I q => h.run pins s σ H Q I (k σ H Q q)⟩
section
variable {X : Cx} {W : WX} {st : Stmt} {rest : List Stmt} {f g : Fsx} {fs : Fs} {pos : Pos} {a : Expr} {fe : Fe}
def xS (f : Fs) : Fsx := fun e => (f e).map .inl
def xE (f : Fe) : Fex := fun e => (f e).map .inl
theorem SD.x (h : SD X st fs) : SDX X W st (xS fs) := by
  obtain ⟨t, p, k⟩ := h
  refine ⟨ps_imp p fun D σ H ⟨m, E, G0, G, e, o, R, q, P⟩ => ?_⟩
  unfold xS at q
  cases h1 : fs e with
  | none => rw [h1] at q; cases q
  | some fl =>
    rw [h1] at q
    cases q
    exact k m E G0 G e σ H fl D R h1 P
theorem SsD.x {sts : List Stmt} (h : SsD X sts fs) : SsDX X W sts (xS fs) := by
  obtain ⟨t, p, k⟩ := h
  refine ⟨pss_imp p fun D σ H ⟨m, E, G0, G, e, o, R, q, P⟩ => ?_⟩
  unfold xS at q
  cases h1 : fs e with
  | none => rw [h1] at q; cases q
  | some fl =>
    rw [h1] at q
    cases q
    exact k m E G0 G e σ H fl D R h1 P
theorem ED.x (h : ED X a fe) : EDX X W a (xE fe) := by
  obtain ⟨t, p, k⟩ := h
  refine ⟨pe_imp p fun σ H Q ⟨m, E, G0, G, e, o, R, q, P⟩ => ?_⟩
  unfold xE at q
  cases h1 : fe e with
  | none => rw [h1] at q; cases q
  | some z =>
    obtain ⟨r, e'⟩ := z
    rw [h1] at q
    cases q
    exact k m E G0 G e σ H r e' Q R h1 P
def x_seq (f g : Fsx) : Fsx := fun e => match f e with
  | some (.inl (.nx e1)) => g e1
  | o => o
theorem ssdx_nil : SsDX X W [] (xS s_nx) := SsD.x ssd_nil
theorem ssdx_cons (h : SDX X W st f) (h2 : SsDX X W rest g) : SsDX X W (st :: rest) (x_seq f g) := by
  refine ⟨pss_imp (pss_cons h.run h2.run) fun D σ H ⟨m, E, G0, G, e, o, R, q, P⟩ => ?_⟩
  unfold x_seq at q
  show tsX X.K X.mg f W { D with nx := tsX X.K X.mg g W D } σ H
  split at q
  · rename_i e1 h1
    exact ⟨m, E, G0, G, e, _, R, h1, fun G' σ' H' s R' => ⟨m, E, G0, G', e1, o, R', q, P.aft s⟩⟩
  · rename_i h1
    refine ⟨m, E, G0, G, e, o, R, q, ?_⟩
    cases o with
    | inl fl =>
      cases fl with
      | nx e1 => exact absurd q (h1 e1)
      | bk e1 => exact P
      | ct e1 => exact P
      | rt r e1 => exact P
    | inr y => exact P
theorem ssdx_one (h : SDX X W st f) : SsDX X W [st] f := by
  refine ⟨pss_imp (pss_one h.run) fun D σ H q => q⟩
def x_ifS (c : Ft) (f g : Fsx) : Fsx := fun e => match c e with
  | some (true, e1) => f e1
  | some (false, e1) => g e1
  | none => none
theorem sdx_if {tst : Expr} {A B : List Stmt} {c : Ft} (hc : TD X tst c) (ha : SsDX X W A f) (hb : SsDX X W B g) : SDX X W (.If tst A B pos) (x_ifS c f g) := by
  obtain ⟨t, p, k⟩ := hc
  refine ⟨ps_imp (ps_if p ha.run hb.run) fun D σ H ⟨m, E, G0, G, e, o, R, q, P⟩ => ?_⟩
  unfold x_ifS at q
  split at q
  · rename_i e1 h1
    refine k m E G0 G e σ H true e1 _ R.r h1 fun G' H' R' S' => ?_
    rw [if_pos rfl]
    exact ⟨m, E, G0, G', e1, o, R.exp R' S', q, P.aft S'.gg⟩
  · rename_i e1 h1
    refine k m E G0 G e σ H false e1 _ R.r h1 fun G' H' R' S' => ?_
    rw [if_neg Bool.false_ne_true]
    exact ⟨m, E, G0, G', e1, o, R.exp R' S', q, P.aft S'.gg⟩
  · cases q
variable {fx : Fex}
def x_drop (f : Fex) : Fsx := fun e => match f e with
  | some (.inl (_, e1)) => some (.inl (.nx e1))
  | some (.inr y) => some (.inr y)
  | none => none
theorem sdx_expr (h : EDX X W a fx) (hs : swapsWith a none pos.line X.env = pure false := by rfl) : SDX X W (.Expr a pos) (x_drop fx) := by
  refine ⟨ps_imp (ps_expr h.run hs) fun D σ H ⟨m, E, G0, G, e, o, R, q, P⟩ => ?_⟩
  unfold x_drop at q
  split at q
  · rename_i r e1 h1
    cases q
    exact ⟨m, E, G0, G, e, _, R.r, h1, fun v G' H' R' S' V N => P G' σ H' S'.gg (R.exp R' S')⟩
  · rename_i y h1
    cases q
    obtain ⟨x, e1⟩ := y
    exact ⟨m, E, G0, G, e, _, R.r, h1, fun cls d G' H' R' S' X' => P cls d G' σ H' S'.gg (R.exp R' S') X'⟩
  · cases q
def x_ret (f : Fex) : Fsx := fun e => match f e with
  | some (.inl (r, e1)) => some (.inl (.rt r e1))
  | some (.inr y) => some (.inr y)
  | none => none
theorem sdx_ret (h : EDX X W a fx) : SDX X W (.Return (some a) pos) (x_ret fx) := by
  refine ⟨ps_imp (ps_ret h.run) fun D σ H ⟨m, E, G0, G, e, o, R, q, P⟩ => ?_⟩
  unfold x_ret at q
  split at q
  · rename_i r e1 h1
    cases q
    exact ⟨m, E, G0, G, e, _, R.r, h1, fun v G' H' R' S' V N => P v G' σ H' S'.gg (R.exp R' S') V⟩
  · rename_i y h1
    cases q
    obtain ⟨x, e1⟩ := y
    exact ⟨m, E, G0, G, e, _, R.r, h1, fun cls d G' H' R' S' X' => P cls d G' σ H' S'.gg (R.exp R' S') X'⟩
  · cases q
def x_set (i : Nat) (f : Fex) : Fsx := fun e => match f e with
  | some (.inl (r, e1)) => (s_setF i (fun _ => some (r, e1)) e).map .inl
  | some (.inr y) => some (.inr y)
  | none => none
theorem sdx_set {x : Str} {pos' : Pos} (i : Nat) (hN : X.N.Nodup) (h : EDX X W a fx) (hi : X.N[i]? = some x := by rfl) (hx : Loc X.env.scope x := by first | exact .inl rfl | exact .inr rfl) (hs : swapsWith a (some (.Name x pos')) pos.line X.env = pure false := by rfl)
    (hf : X.fn x = true ∨ X.env.scope.names.lookup x = some .local := by first | exact .inl rfl | exact .inr rfl | assumption) : SDX X W (.Assign [.Name x pos'] a pos) (x_set i fx) := by
  refine ⟨ps_imp (ps_set hN hi hx h.run hs hf) fun D σ H ⟨m, E, G0, G, e, o, R, q, P⟩ => ?_⟩
  unfold x_set at q
  split at q
  · rename_i r e1 h1
    refine ⟨m, E, G0, G, e, _, R.r, h1, fun v G' H' R' S' V N => ?_⟩
    have Rx := R.exp R' S'
    obtain ⟨G2, R2, S2, s2, V2⟩ := R'.freeze S' V N
    have Rx2 := R.exp R2 S2
    rw [r_s_setF] at q
    dsimp only at q
    by_cases ok : okS [i] e1 = true
    · rw [if_pos ok] at q
      cases hr : frzR r with
      | im d =>
        rw [hr] at q V2
        cases q
        exact P G2 _ H' S2.gg (Rx2.setI V2 ok)
      | ac ds => cases r <;> cases hr
      | br j =>
        rw [hr] at q
        cases q
    · rw [if_neg ok] at q
      cases q
  · rename_i y h1
    cases q
    obtain ⟨x, e1⟩ := y
    exact ⟨m, E, G0, G, e, _, R.r, h1, fun cls d G' H' R' S' X' => P cls d G' σ H' S'.gg (R.exp R' S') X'⟩
  · cases q
end
end DL
namespace DL
open PySem PySem.Spec PyProof.Rows L2
abbrev Ro := Rs ⊕ Xc
def spX (K : PySem.W.Frag) (mg : Str → Option Value) (n : Nat) (φ : List PyData → Option Ro) : Sp := fun vs H Q E => ∃ G ds o, Same G H ∧ DpAll K G vs ds ∧ vs.length = n ∧ φ ds = some o ∧
  (∀ r, o = .inl r → ∀ v G' H', Same G G' → Same G' H' → Same H H' → (∀ a, G a = none → H a ≠ none → G' a = none) → VrF K G' H H' v r → Q v H') ∧
  (∀ x, o = .inr x → ∀ cls d G' H', Same G G' → Same G' H' → Same H H' → (∀ a, G a = none → H a ≠ none → G' a = none) → XcAt K mg G' cls d x → E cls d H')
inductive KfX (P : Program) (w : World) (K : PySem.W.Frag) (mg : Str → Option Value) (base : Heap) (k : Nat) (x : Str) (sp : Sp) (dvs : List V) : Prop where
  | kept (at_ : Addr) (fd : FuncData) (names : List Str) (given : List Value) (fn : FnOk P w K mg base (L2N.CX P w) k at_ fd names sp) (here : mg x = some (.ref at_)) (stays : PySem.W.keepIn K (.ref at_) = true) (binds : Binds K fd names given) (vals : Vals dvs given)
def runX (n nl : Nat) (g : Fsx) (ds : List PyData) : Option Ro := if ds.length = n then (match g (env0 ds nl) with
  | some (.inl (.rt r e)) => (finR r e).map .inl
  | some (.inl (.nx _)) => some (.inl (.im .none))
  | some (.inr (x, _)) => some (.inr x)
  | _ => none) else none
theorem runX_len {n nl : Nat} {g : Fsx} : ∀ ds, (runX n nl g ds).isSome = true → ds.length = n := fun ds h => by
  unfold runX at h
  by_cases z : ds.length = n
  · exact z
  · rw [if_neg z] at h
    cases h
section
variable {P : Program} {w : World} {K : PySem.W.Frag} {mg : Str → Option Value} {base : Heap} {x qual : Str} {params : Arguments} {body : List Stmt} {scope : Scope} {dvs : List V} {kws : List (Str × V)} {f : Addr} {fd : FuncData} {N ps : List Str} {k n nl : Nat} {g : Fsx}
theorem fnX (F : FunD K x qual params body scope dvs kws f fd) (S : FnScope N ps scope) (hp : ps.length = n) (hl : n + nl = N.length)
    (hb : ∀ (cdv : Value) (A : Around) (outer : List Env) (s : Shared) (H : Hp) (E : XK), Room k (A.deeper (envOfC qual scope s.heap.objs.size f cdv)) → L2N.Takes (cxOf (L2N.CX P w) P w K mg base N qual scope f cdv A outer s H E) (fun cls d _ H => E cls d H) →
      SsDX (cxOf (L2N.CX P w) P w K mg base N qual scope f cdv A outer s H E) (fun cls d _ H => E cls d H) body g) :
    FnOk P w K mg base (L2N.CX P w) (k + 1) f fd ps (spX K mg n (runX n nl g)) := by
  refine F.ok S (fun vs H Q E h => ?_) fun cdv A outer s H vs Q E hr h => ?_
  · obtain ⟨_, _, _, _, _, h, _⟩ := h
    rw [h, hp]
  · have b := hb cdv A outer s H E hr (L2N.takes_of rfl rfl rfl rfl)
    obtain ⟨G, ds, o, s1, hd, hv, hr2, hQ, hE⟩ := h
    refine ⟨_, b.run, ?_⟩
    have Rz0 : Rz K none (Ef.of H) G G (env0 ds nl) (L2.start N vs) H := rz_start s1 hd (by omega)
    unfold runX at hr2
    rw [if_pos (by rw [← dpAll_len hd]; exact hv)] at hr2
    have nw : ∀ {e' : Ev} {G' : Hp} {σ' : St} {H' : Hp}, Rz K none (Ef.of H) G G' e' σ' H' → (∀ a, G a = none → H a ≠ none → G' a = none) := fun R' => R'.r.nw
    have hh : ∀ {e' : Ev} {G' : Hp} {σ' : St} {H' : Hp}, Rz K none (Ef.of H) G G' e' σ' H' → Same H H' := fun R' a o z => R'.r.eh a o z (by simp)
    split at hr2
    · rename_i r' e' h1
      refine ⟨none, Ef.of H, G, G, _, _, Rz0, h1, fun v G' σ' H' s2 R' V' => ?_⟩
      unfold finR at hr2
      cases r' with
      | im d =>
        cases hr2
        exact hQ _ rfl v G' H' s2 R'.r.gh (hh R') (nw R') V'
      | ac d =>
        cases hr2
        obtain ⟨p, ws, a1, a2, a3, a4, a5, _⟩ := V'
        exact hQ _ rfl v G' H' s2 R'.r.gh (hh R') (nw R') ⟨p, ws, a1, a2, a3, a4, a5⟩
      | br i =>
        dsimp only at hr2
        split at hr2
        · rename_i d h2
          cases hr2
          obtain ⟨d', b1, b2⟩ := V'
          obtain ⟨p, ws, a1, a2, a3, a4, a5⟩ := R'.r.ac i d h2
          rw [a1] at b2
          cases b2
          have a5 : H p = none := by
            rcases a5 with a5 | a5
            · exact a5
            · cases a5.1
          exact hQ _ rfl _ G' H' s2 R'.r.gh (hh R') (nw R') ⟨p, ws, rfl, a5, a2, a3, a4⟩
        · cases hr2
    · rename_i e' h1
      cases hr2
      exact ⟨none, Ef.of H, G, G, _, _, Rz0, h1, fun G' σ' H' s2 R' => hQ _ rfl .non G' H' s2 R'.r.gh (hh R') (nw R') .non⟩
    · rename_i xc e' h1
      cases hr2
      exact ⟨none, Ef.of H, G, G, _, _, Rz0, h1, fun cls d G' σ' H' s2 R' X' => hE _ rfl cls d G' H' s2 R'.r.gh (hh R') (nw R') X'⟩
    · cases hr2
end
def x_callX (φ : List PyData → Option Ro) (dds : List PyData) (fa : Fa) : Fex := fun e => match argsI fa e with
  | some (ds, e1) => (match φ (ds ++ dds) with
    | some (.inl (.im d)) => some (.inl (.im d, e1))
    | some (.inl (.ac cs)) => some (.inl (.ac cs, e1))
    | some (.inr x) => some (.inr (x, e1))
    | _ => none)
  | none => none
def tCallX (sp : Sp) (dvs : List V) (W : WX) (t : TA) : TE := fun σ H Q => t σ H fun vs H1 => sp (vs ++ dvs) H1 Q (fun cls d H => W cls d σ H)
section
variable {X : Cx} {W : WX} {k j n : Nat} {f : Addr} {fd : FuncData} {ps : List Str} {sp : Sp} {x : Str} {p pos : Pos} {a : Expr} {es : List Expr} {t : TA} {dvs : List V} {ds : List Value} {dds : List PyData} {fa : Fa}
theorem pe_callXd (F : FnOk X.prog X.w X.K X.mg X.base (L2N.CX X.prog X.w) k f fd ps sp) (hr : Room k X.A) (hg : Gl X x) (hm : X.mg x = some (.ref f)) (hk : PySem.W.keepIn X.K (.ref f) = true) (hb : Binds X.K fd ps ds) (hd : Vals dvs ds) (tk : L2N.Takes X W)
    (ha : PA X (a :: es) t) (hdb : (x == ("__debug__" : Str)) = false := by decide) (he : starEach (a :: es) X.env = (false, eval a X.env) :: starEach es X.env := by rfl) (hpl : (backTo pos (starEach es X.env)).any (·.1) = false := by rfl) :
    PE X (.Call (.Name x p) (a :: es) [] pos) (tCallX sp dvs W t) := by
  refine ⟨fun pins s σ H Q I h => wpAny_Call_Name_kw (ld_glob I hg hm (PySem.W.callWith_K (h₀ := X.base) I.ok.mod.kin hk (thn (ha.run pos pins s σ H _ I h) fun us s1 y => ?_) he hpl) hdb)⟩
  obtain ⟨vs, H1, I1, r, q⟩ := y
  have v2 : Vals (vs ++ dvs) (us ++ ds) := r.append hd
  have hl : (us ++ ds).length = ps.length := v2.length.symm.trans (F.len _ _ _ _ q)
  refine ⟨I1.kIn, wpAny_call (codeAny_mono (F.run X.A X.stack s1 H1 ⟨us, []⟩ (us ++ ds) (vs ++ dvs) Q _ hr I1.env0 (hb s1 us I1.kIn hl) v2 q) fun e s' z => ?_)⟩
  match e, z with
  | .error e, z => exact L2N.passAt tk σ pins H1 s1 e s' I1 z
  | .ok (.ret u), z => exact I1.after z
theorem edx_call {φ : List PyData → Option Ro} (F : KfX X.prog X.w X.K X.mg X.base k x (spX X.K X.mg n φ) dvs) (hr : Room j X.A) (hk : k ≤ j) (hd : dvsD X.K dvs dds) (hn : ∀ ds, (φ ds).isSome = true → ds.length = n) (tk : L2N.Takes X W) (h : AD X (a :: es) fa) (hg : Gl X x := by rfl)
    (hdb : (x == ("__debug__" : Str)) = false := by decide) (he : starEach (a :: es) X.env = (false, eval a X.env) :: starEach es X.env := by rfl) (hpl : (backTo pos (starEach es X.env)).any (·.1) = false := by rfl) :
    EDX X W (.Call (.Name x p) (a :: es) [] pos) (x_callX φ dds fa) := by
  obtain ⟨f, fd, ps, ds, F, hm, kp, hb, hv⟩ := F
  obtain ⟨t, pa, kk⟩ := h
  refine ⟨pe_imp (pe_callXd F (hr.mono hk) hg hm kp hb hv tk pa hdb he hpl) fun σ H Q ⟨m, E, G0, G, e, o, R, q, P⟩ => ?_⟩
  unfold x_callX at q
  cases h1 : argsI fa e with
  | none => simp only [h1] at q; cases q
  | some z =>
    obtain ⟨ds, e1⟩ := z
    simp only [h1] at q
    obtain ⟨rs, q1, q2⟩ := argsI_ok h1
    refine kk m E G0 G e σ H rs e1 _ R q1 fun vs G1 H1 R1 S1 V1 => ?_
    have D1 := vr_imAll V1 q2
    have D2 := dpAll_app D1 (hd G1)
    cases h2 : φ (ds ++ dds) with
    | none => simp only [h2] at q; cases q
    | some y =>
      refine ⟨G1, ds ++ dds, y, R1.gh, D2, (by rw [dpAll_len D2]; exact hn _ (by rw [h2]; rfl)), h2, fun r hy v G' H' s1 s2 s3 nw vr => ?_, fun xc hy cls d G' H' s1 s2 s3 nw xt => ?_⟩
      · subst hy
        obtain ⟨R2, S2⟩ := R1.called s1 s2 s3 nw
        obtain ⟨V2, N2⟩ := R1.vrf vr
        cases r with
        | im d =>
          simp only [h2, Option.some.injEq] at q
          subst q
          exact P v G' H' R2 (S1.trans S2) V2 (nw_back S1 v N2)
        | ac d =>
          simp only [h2, Option.some.injEq] at q
          subst q
          exact P v G' H' R2 (S1.trans S2) V2 (nw_back S1 v N2)
        | br d => simp only [h2] at q; cases q
      · subst hy
        obtain ⟨R2, S2⟩ := R1.called s1 s2 s3 nw
        simp only [h2, Option.some.injEq] at q
        subst q
        exact P cls d G' H' R2 (S1.trans S2) xt
end
/-- __init__: a field for each name -/
def spI (C : Addr) (ns : List Str) : Sp := fun vs H Q _ => ∃ (a : Addr) (us : List V), vs = .ref a :: us ∧ us.length = ns.length ∧ H a = some (exo a C none) ∧
  ∀ (dx : Addr) (H' : Hp), H dx = none → dx ≠ a → H' a = some (exo a C (some dx)) → H' dx = some (exd dx (ns.zip us).reverse) → (∀ b, b ≠ a → b ≠ dx → H' b = H b) → Q .non H'
/-- what is told of such a class -/
structure ExT (P : Program) (w : World) (K : PySem.W.Frag) (mg : Str → Option Value) (base : Heap) (x : Str) (ns : List Str) : Prop where
  ex : ∃ (C fI : Addr) (fd : FuncData) (ps : List Str), mg x = some (.ref C) ∧ OexC K C ∧ PySem.W.findIn K (.ref C) "__init__" = some (some (.ref fI)) ∧ PySem.W.typeIn K (.ref fI) = some (.type "function") ∧ FnOk P w K mg base CX0 1 fI fd ps (spI C ns) ∧ Binds K fd ps []
def x_raise (c : Str) (ns : List Str) (fa : Fa) : Fsx := fun e => match argsI fa e with
  | some (ds, e1) => if ds.length = ns.length ∧ ns.length ≤ 1000 then some (.inr (⟨c, (ns.zip ds).reverse⟩, e1)) else none
  | none => none
theorem zip_fst {α : Type} : ∀ (ns : List Str) (us : List α), us.length = ns.length → (ns.zip us).map (·.1) = ns
  | [], _, _ => rfl
  | n :: ns, [], h => by cases h
  | n :: ns, u :: us, h => by
    rw [List.zip_cons_cons, List.map_cons, zip_fst ns us (by simpa using h)]
theorem zip_snd {α : Type} : ∀ (ns : List Str) (us : List α), us.length = ns.length → (ns.zip us).map (·.2) = us
  | [], [], _ => rfl
  | [], u :: us, h => by cases h
  | n :: ns, [], h => by cases h
  | n :: ns, u :: us, h => by
    rw [List.zip_cons_cons, List.map_cons, zip_snd ns us (by simpa using h)]
theorem dpAll_rev' {K : PySem.W.Frag} {G : Hp} {vs : List V} {ds : List PyData} (h : DpAll K G vs ds) : DpAll K G vs.reverse ds.reverse := dpAll_rev h
theorem fsAt_zip {K : PySem.W.Frag} {G : Hp} {ns : List Str} {vs : List V} {ds : List PyData} (h : DpAll K G vs ds) (hl : ds.length = ns.length) : FsAt K G (ns.zip vs).reverse (ns.zip ds).reverse := by
  have lv : vs.length = ns.length := by rw [dpAll_len h, hl]
  unfold FsAt
  rw [List.map_reverse, List.map_reverse, List.map_reverse, List.map_reverse, zip_fst ns vs lv, zip_fst ns ds hl, zip_snd ns vs lv, zip_snd ns ds hl]
  exact ⟨rfl, dpAll_rev' h⟩
theorem fin_oex {X : Cx} {pins : List (Addr × Obj)} {σ : St} {H0 H3 : Hp} {Q : XK} {s0 s3 : Shared} {h1 : Heap} {p C dd : Addr} {fs : List (Str × V)} (T : Raises X (.ref C)) (I0 : Inv X pins σ H0 s0) (hp : s0.heap.objs.size ≤ p)
    (kp : ∀ b u, s0.heap.get? b = some u → h1.get? b = some u) (n3 : Un (frs X.stack) [] (upd H0 p (exo p C none)) H3 h1 s3.heap) (ok3 : HOk X.prog X.w H3 s3.heap) (os3 : s3.os = s0.os) (bare3 : AllBare s3.gens)
    (e1 : H3 p = some (exo p C (some dd))) (e2 : H3 dd = some (exd dd fs)) (e3 : H0 dd = none) (q : Q (.ref C) (some dd) (upd (L2.del H3 p) dd (.xd fs))) : L2N.MkP X pins σ Q (.ref p) s3 := by
  obtain ⟨hh0, gg0, dd0, tt0, oo0⟩ := s0
  obtain ⟨hh3, gg3, dd3, tt3, oo3⟩ := s3
  obtain ⟨args, Gm, J, k3, none3, obj3, gone3⟩ := mk_end0 (d2 := dd3) (t2 := tt3) I0 hp kp n3 ok3 os3 bare3 e1 e2 e3
  refine ⟨p, _, _, ⟨Gm, gg3, dd3, tt3, oo3⟩, _, .ref C, some dd, rfl, J, k3, none3, obj3, ?_, rfl, rfl, gone3, rfl, bare3, T, q⟩
  exact ⟨rfl, rfl, fun ws hw => by
    cases hw
    rfl⟩
theorem pmk_oexN {X : Cx} {CX : CXT} {e0 : Expr} {rest : List Expr} {ta : TA} {np cp : Pos} {x : Str} {C fI : Addr} {k : Nat} {fd : FuncData} {ps : List Str} {sp : Sp} {gs : List Value} {gvs : List V} (T : OexC X.K C) (hi : PySem.W.findIn X.K (.ref C) "__init__" = some (some (.ref fI)))
    (ht : PySem.W.typeIn X.K (.ref fI) = some (.type "function")) (F : FnOk X.prog X.w X.K X.mg X.base CX k fI fd ps sp) (room : Room (k + 1) X.A) (hb : Binds X.K fd ps gs) (hv : Vals gvs gs) (hx : Passes CX X (fun _ _ _ => False)) (hg : Gl X x) (hm : X.mg x = some (.ref C))
    (ha : PA X (e0 :: rest) ta) (hdb : (x == ("__debug__" : Str)) = false := by decide) (hst : starEach (e0 :: rest) X.env = (false, eval e0 X.env) :: starEach rest X.env := by rfl) (hpl : (backTo cp (starEach rest X.env)).any (·.1) = false := by rfl) :
    L2N.PMk X (.Call (.Name x np) (e0 :: rest) [] cp) (tMkO C sp gvs ta) := by
  intro pins s σ H Q I q0
  have cls := T.cls
  obtain ⟨_, _, _, _, bmro, _, _, _, _, _, _, _, _, _, _, lookC, refs⟩ := cls
  refine wpAny_Call_Name_kw (ld_glob I hg hm (PySem.W.callWith_K (h₀ := X.base) I.ok.mod.kin T.kC ?_ hst hpl) hdb)
  refine thn (ha.run cp pins s σ H _ I q0) fun given sA ⟨vs, HA, IA, rel, few, mk⟩ => ⟨IA.kIn, ?_⟩
  show wpAny _ _ (call (.ref C) given) _ _ _
  -- the tuple of the arguments, then the exception
  have keep : ∀ b u, sA.heap.get? b = some u → ((sA.heap.push (PySem.W.kdv_tup given)).push (PySem.HandSPX.excO C sA.heap.objs.size)).get? b = some u := fun b u z => Heap.get?_push_of_some _ (Heap.get?_push_of_some _ z)
  have up : sA.heap.objs.size ≤ sA.heap.objs.size + 1 := Nat.le_succ _
  have fresh : HA (sA.heap.objs.size + 1) = none := IA.hok.fresh up
  have body := mk _ fresh
  obtain ⟨hp, gs0, dr, tk, os⟩ := sA
  have stands : ((hp.push (PySem.W.kdv_tup given)).push (PySem.HandSPX.excO C hp.objs.size)).get? (hp.objs.size + 1) = some (PySem.HandSPX.excO C hp.objs.size) := by
    heap_get
  have IB := IA.laid (t' := tk) (o := exo (hp.objs.size + 1) C none) keep up (exo_ok stands)
  have all : Vals (V.ref (hp.objs.size + 1) :: (vs ++ gvs)) (Value.ref (hp.objs.size + 1) :: (given ++ gs)) := .cons rfl (rel.append hv)
  have many : (Value.ref (hp.objs.size + 1) :: given ++ gs).length = ps.length := (all.length.symm.trans (F.len _ _ _ _ body) :)
  have small : given.length ≤ sizeLine := by
    have z := Paired.length rel
    rw [sizeLine_eq]
    omega
  have inits := F.run _ X.stack _ _ ⟨Value.ref (hp.objs.size + 1) :: given, []⟩ _ _ _ (fun _ _ _ => False) (room.make C given []) (IB.env0.make C given []) (hb _ (Value.ref (hp.objs.size + 1) :: given) IB.kIn many) all body
  refine wpAny_call (PySem.HandSPX.call_own PySem.F.excBase_ValueError (fun Y => PySem.HandSPX.refsVE_contains Y bmro refs) (IA.kIn _ _ lookC) (PySem.W.looks_findIn IA.kIn hi) (fun self => PySem.W.bind_fn IA.kIn self ht) small (codeAny_mono inits fun r sZ z => ?_))
  match r, z with
  | .error er, z => exact hx pins σ _ _ er sZ IB z
  | .ok .next, z => exact z.elim
  | .ok .brk, z => exact z.elim
  | .ok .cont, z => exact z.elim
  | .ok (.ret u), ⟨v, H2, os2, bare2, un2, hok2, rv, ev, dd, fs, ea, ed, hd1, q2⟩ =>
    subst ev
    exact ⟨rv, fin_oex (raises_own T.exC T.tyC) IA up keep un2 hok2 os2 bare2 ea ed hd1 q2⟩
section
variable {X : Cx} {W : WX} {x : Str} {ns : List Str} {p p2 pos : Pos} {a : Expr} {es : List Expr} {fa : Fa} {j : Nat}
theorem sdx_raise (T : ExT X.prog X.w X.K X.mg X.base x ns) (hr : Room j X.A) (hj : 2 ≤ j) (hc : X.calm = true) (tk : L2N.Takes X W) (h : AD X (a :: es) fa) (hg : Gl X x := by rfl)
    (hdb : (x == ("__debug__" : Str)) = false := by decide) (he : starEach (a :: es) X.env = (false, eval a X.env) :: starEach es X.env := by rfl) (hpl : (backTo p2 (starEach es X.env)).any (·.1) = false := by rfl) :
    SDX X W (.Raise (some (.Call (.Name x p) (a :: es) [] p2)) none pos) (x_raise x ns fa) := by
  obtain ⟨C, fI, fd, ps, gC, T1, iC, tI, F1, hb⟩ := T
  obtain ⟨t, pa, kk⟩ := h
  refine ⟨ps_imp (L2N.ps_raise hc tk (pmk_oexN T1 iC tI F1 (hr.mono hj) hb .nil (fun _ _ _ _ _ _ _ z => z.elim) hg gC pa hdb he hpl)) fun D σ H ⟨m, E, G0, G, e, o, R, q, P⟩ => ?_⟩
  unfold x_raise at q
  cases h1 : argsI fa e with
  | none => simp only [h1] at q; cases q
  | some z =>
    obtain ⟨ds, e1⟩ := z
    simp only [h1] at q
    by_cases hl : ds.length = ns.length ∧ ns.length ≤ 1000
    · rw [if_pos hl] at q
      cases q
      obtain ⟨rs, q1, q2⟩ := argsI_ok h1
      refine kk m E G0 G e σ H rs e1 _ R.r q1 fun vs G1 H1 R1 S1 V1 => ?_
      have D1 := vr_imAll V1 q2
      have lv : vs.length = ns.length := by rw [dpAll_len D1]; exact hl.1
      refine ⟨by omega, fun b hb1 => ⟨b, vs, by rw [List.append_nil], lv, upd_same, fun dx H' d1 d2 d3 d4 d5 => ⟨rfl, dx, (ns.zip vs).reverse, d3, d4, ?_, ?_⟩⟩⟩
      · rw [upd_ne d2] at d1
        exact d1
      · have d0 : H1 dx = none := by rwa [upd_ne d2] at d1
        have eq : upd (L2.del H' b) dx (.xd (ns.zip vs).reverse) = upd H1 dx (.xd (ns.zip vs).reverse) := by
          funext c
          by_cases y : c = dx
          · subst y
            rw [upd_same, upd_same]
          · rw [upd_ne y, upd_ne y]
            by_cases y2 : c = b
            · subst y2
              rw [L2.del_same]
              exact hb1.symm
            · rw [L2.del_ne y2, d5 c y2 y, upd_ne y2]
        rw [eq]
        obtain ⟨R2, S2⟩ := R1.newG (o := .xd (ns.zip vs).reverse) d0
        refine P (.ref C) (some dx) _ σ _ (S1.gg.trans S2.gg) (R.exp R2 (S1.trans S2)) ⟨C, dx, _, gC, rfl, rfl, upd_same, ?_⟩
        exact (fsAt_zip D1 hl.1).same S2.gg
    · rw [if_neg hl] at q
      cases q
end
end DL
namespace DL
open PySem PySem.Spec PyProof.Rows L2
section
variable {P : Program} {w : World} {K : PySem.W.Frag} {mg : Str → Option Value} {base : Heap} {x qual : Str} {params : Arguments} {body : List Stmt} {scope : Scope} {dvs : List V} {kws : List (Str × V)} {f C : Addr} {fd : FuncData} {N ps : List Str} {f1 f2 : Str}
theorem init2 (F : FunD K x qual params body scope dvs kws f fd) (S : FnScope N ps scope) (hp : ps.length = 3) (T : OexC K C) (n1 : PySem.W.findIn K (.ref C) f1 = some none) (n2 : PySem.W.findIn K (.ref C) f2 = some none)
    (hb : ∀ (cdv : Value) (A : Around) (outer : List Env) (s : Shared) (H : Hp) (E : XK), PSs (cxOf CX0 P w K mg base N qual scope f cdv A outer s H E) body (tSeq (tOst K f1 (tVar 0) (tVar 1)) (tSeq (tOst K f2 (tVar 0) (tVar 2)) tNext))) : FnOk P w K mg base CX0 1 f fd ps (spI C [f1, f2]) := by
  refine F.ok S (fun vs H Q E h => ?_) fun cdv A outer s H vs Q E hr h => ⟨_, hb cdv A outer s H E, ?_⟩
  · obtain ⟨a, us, rfl, h1, _⟩ := h
    rw [hp, List.length_cons, h1]
    rfl
  · obtain ⟨a, us, rfl, h1, h2, h3⟩ := h
    match us, h1 with
    | [u1, u2], _ =>
      refine ⟨u1, st_at rfl, .ref a, st_at rfl, a, C, rfl, T, n1, .inl ⟨h2, fun dx d1 d2 => ?_⟩⟩
      have e2 : a ≠ dx := fun z => d2 z.symm
      refine ⟨u2, st_at rfl, .ref a, st_at rfl, a, C, rfl, T, n2, .inr ⟨dx, [(f1, u1)], upd_same, by rw [upd_ne d2, upd_same], by show 1 ≤ 900; omega, ?_⟩⟩
      exact h3 dx _ d1 d2 (by rw [upd_ne e2, upd_same]) upd_same fun b b1 b2 => by rw [upd_ne b2, upd_ne b1, upd_ne b2]
end
section
variable {K : PySem.W.Frag} {m : Option Addr} {E : Ef} {G0 G H : Hp} {e : Ev} {σ : St} {i : Nat}
theorem Rl.drop (R : Rl K m E G0 G e σ H) (i : Nat) : Rl K m E G0 G (e.set i none) (σ.set i none) H := by
  have keep : ∀ {j : Nat} {s : Sl}, (e.set i none)[j]? = some (some s) → e[j]? = some (some s) ∧ (σ.set i none)[j]? = σ[j]? := fun {j s} z => by
    have z2 := R.len
    rw [set_get] at z ⊢
    by_cases y : i = j ∧ j < e.length
    · rw [if_pos y] at z
      cases z
    · rw [if_neg y] at z
      exact ⟨z, if_neg (by omega)⟩
  refine ⟨R.gg, R.gh, R.eh, R.mh, R.nw, by rw [List.length_set, List.length_set]; exact R.len, ?_, ?_, ?_, ?_⟩
  · intro j d z
    rw [(keep z).2]
    exact R.im j d (keep z).1
  · intro j ds z
    rw [(keep z).2]
    exact R.ac j ds (keep z).1
  · intro j k dj dk q z1 z2 z3 z4
    rw [(keep z1).2] at z3
    rw [(keep z2).2] at z4
    exact R.inj j k dj dk q (keep z1).1 (keep z2).1 z3 z4
  · intro j s z
    rw [(keep z).2]
    exact R.ot j s (keep z).1
theorem Rz.drop (R : Rz K m E G0 G e σ H) (ok : okS [i] e = true) : Rz K m E G0 G (e.set i none) (σ.set i none) H := by
  refine ⟨R.r.drop i, fun p z => ?_⟩
  obtain ⟨z1, z2⟩ := R.z p z
  by_cases y : i = 0
  · subst y
    exact absurd (List.mem_singleton.mpr rfl) (okS_no ok z1)
  · rw [List.getElem?_set_ne y, List.getElem?_set_ne y]
    exact ⟨z1, z2⟩
end
def gone (i : Nat) (e : Ev) : Option Ev := if okS [i] e = true then some (e.set i none) else none
/-- behind a clause the name is gone -/
def goneF (i : Nat) : Fl → Option Fl
  | .nx e => (gone i e).map .nx
  | .bk e => (gone i e).map .bk
  | .ct e => (gone i e).map .ct
  | .rt (.im d) e => (gone i e).map (.rt (.im d))
  | .rt _ _ => none
abbrev Su := Str → Addr → Addr → Fs
/-- what a clause gives, wherever the exception stands -/
def caught (i : Nat) (g : Su) (x : Xc) (e : Ev) (fl : Fl) : Prop := ∀ (a dd : Addr) (fs : List (Str × V)), ∃ fl', g x.c a dd (e.set i (some (.ob (.xc a dd fs x.fs)))) = some fl' ∧ goneF i fl' = some fl
theorem caught_one {i : Nat} {g : Su} {x : Xc} {e : Ev} {fl fl2 : Fl} (h : caught i g x e fl) (h2 : caught i g x e fl2) : fl = fl2 := by
  obtain ⟨f1, a1, a2⟩ := h 0 0 []
  obtain ⟨f2, b1, b2⟩ := h2 0 0 []
  rw [a1] at b1
  cases b1
  rw [a2] at b2
  exact Option.some.inj b2
open Classical in
noncomputable def x_try (fb : Fsx) (sub : Str → Option Bool) (i : Nat) (g : Su) : Fsx := fun e => match fb e with
  | some (.inl fl) => some (.inl fl)
  | some (.inr (x, e1)) => (match sub x.c with
    | some true => if h : okS [i] e1 = true ∧ ∃ fl, caught i g x e1 fl then some (.inl (choose h.2)) else none
    | some false => some (.inr (x, e1))
    | none => none)
  | none => none
theorem x_try_no {fb : Fsx} {sub : Str → Option Bool} {i : Nat} {g : Su} {e : Ev} {fl : Fl} (h : fb e = some (.inl fl)) : x_try fb sub i g e = some (.inl fl) := by
  unfold x_try
  rw [h]
theorem x_try_yes {fb : Fsx} {sub : Str → Option Bool} {i : Nat} {g : Su} {e e1 : Ev} {x : Xc} {fl : Fl} (h : fb e = some (.inr (x, e1))) (hs : sub x.c = some true) (ok : okS [i] e1 = true) (c : caught i g x e1 fl) : x_try fb sub i g e = some (.inl fl) := by
  unfold x_try
  rw [h]
  dsimp only
  rw [hs]
  dsimp only
  rw [dif_pos ⟨ok, fl, c⟩]
  exact congrArg (fun z => some (Sum.inl z)) (caught_one (Classical.choose_spec (⟨fl, c⟩ : ∃ fl, caught i g x e1 fl)) c)
def SubT (K : PySem.W.Frag) (mg : Str → Option Value) (c : Value) (sub : Str → Option Bool) : Prop := ∀ x b, sub x = some b → ∀ C, mg x = some (.ref C) → PySem.W.exmOne K (.ref C) c = some b
def noW : WX := fun _ _ _ _ => False
/-- the clause's reading -/
def tsC (K : PySem.W.Frag) (mg : Str → Option Value) (g : Su) (a : Addr) (cls : Value) (d : Option Addr) : TS := fun D σ H => ∃ (c : Str) (C dd : Addr), mg c = some (.ref C) ∧ cls = .ref C ∧ d = some dd ∧ tsX K mg (xS (g c a dd)) noW D σ H
section
variable {X : Cx} {W : WX} {x n : Str} {c : Value} {i : Nat} {body suite : List Stmt} {b0 : Stmt} {np pos pos' : Pos} {fb : Fsx} {sub : Str → Option Bool} {g : Su}
theorem sdx_try (hs : X.stack = X.env :: X.outer) (hf : X.env.frame = some X.env.locals) (hN : X.N.Nodup) (tk : L2N.Takes X W) (T : SubT X.K X.mg c sub) (hc : Names X x c)
    (hb : ∀ (W' : WX) (pn : List (Addr × Obj)) (xe : Value → Shared → Prop), L2N.Takes (X.tr pn xe) W' → PassesOwn (model X.prog X.w) X.A X.env xe → SsDX (X.tr pn xe) W' body fb)
    (hsu : ∀ (k : Str) (C a dd : Addr) (oe : Obj) (pn : List (Addr × Obj)), X.mg k = some (.ref C) → L2N.Zn (.ref C) (some dd) oe → (∃ vs, oe.data = .fields vs) → SsD (X.suite a ((a, oe) :: pn)) (b0 :: suite) (g k a dd))
    (hi : X.N[i]? = some n := by rfl) (hln : X.env.kindOf n = some .local := by rfl) :
    SDX X W (.Try body [.ExceptHandler (some (.Name x np)) (some n) (b0 :: suite) pos'] [] [] pos) (x_try fb sub i g) := by
  refine ⟨ps_imp (L2N.ps_try_as (tb := fun W' => tsX X.K X.mg fb W') (ts := tsC X.K X.mg g) hs hf hN hi hln hc tk (fun W' pn xe t1 t2 => (hb W' pn xe t1 t2).run) fun a oe cls d pn hz hv => ?_) fun D σ H ⟨m, E, G0, G, e, o, R, q, P⟩ => ?_⟩
  · refine ⟨fun pins s σ H D I ⟨k, C, dd, h1, h2, h3, h4⟩ => ?_⟩
    subst h2 h3
    exact ((hsu k C a dd oe pn h1 hz hv).x (W := noW)).run.run pins s σ H D I h4
  · unfold x_try at q
    split at q
    · rename_i fl h1
      cases q
      exact ⟨m, E, G0, G, e, _, R, h1, P⟩
    · rename_i y e1 h1
      refine ⟨m, E, G0, G, e, _, R, h1, ?_⟩
      intro cls d G' σ' H' s1 R1 A1
      obtain ⟨C, dd, fs, g1, g2, g3, g4, g5⟩ := A1
      subst g2 g3
      split at q
      · rename_i h2
        split at q
        · rename_i hh
          cases q
          have cc := Classical.choose_spec hh.2
          refine ⟨true, T _ _ h2 C g1, fun _ a na => ?_, fun z => by cases z⟩
          obtain ⟨fl', c1, c2⟩ := cc a dd fs
          have R2 : Rz X.K m E G0 G' (e1.set i (some (.ob (.xc a dd fs y.fs)))) (σ'.set i (some (.ref a))) H' := R1.setO ⟨rfl, g4, g5.1, g5.2⟩ hh.1
          refine ⟨y.c, C, dd, g1, rfl, rfl, m, E, G0, G', _, .inl fl', R2, (by show (g y.c a dd _).map Sum.inl = _; rw [c1]; rfl), ?_⟩
          have P2 := PoS.aft P s1
          generalize Classical.choose hh.2 = fl at c2 P2
          have drop : ∀ {e2 e3 : Ev}, gone i e2 = some e3 → okS [i] e2 = true ∧ e3 = e2.set i none := fun {e2 e3} z => by
            unfold gone at z
            by_cases k : okS [i] e2 = true
            · rw [if_pos k] at z
              exact ⟨k, (Option.some.inj z).symm⟩
            · rw [if_neg k] at z
              cases z
          match fl', c2 with
          | .nx e2, c2 =>
            cases h3 : gone i e2 with
            | none => rw [show goneF i (.nx e2) = (gone i e2).map .nx from rfl, h3] at c2; cases c2
            | some e3 =>
              rw [show goneF i (.nx e2) = (gone i e2).map .nx from rfl, h3] at c2
              cases c2
              obtain ⟨k1, rfl⟩ := drop h3
              exact fun G2 σ2 H2 s2 R3 => P2 G2 _ H2 s2 (R3.drop k1)
          | .bk e2, c2 =>
            cases h3 : gone i e2 with
            | none => rw [show goneF i (.bk e2) = (gone i e2).map .bk from rfl, h3] at c2; cases c2
            | some e3 =>
              rw [show goneF i (.bk e2) = (gone i e2).map .bk from rfl, h3] at c2
              cases c2
              obtain ⟨k1, rfl⟩ := drop h3
              exact fun G2 σ2 H2 s2 R3 => P2 G2 _ H2 s2 (R3.drop k1)
          | .ct e2, c2 =>
            cases h3 : gone i e2 with
            | none => rw [show goneF i (.ct e2) = (gone i e2).map .ct from rfl, h3] at c2; cases c2
            | some e3 =>
              rw [show goneF i (.ct e2) = (gone i e2).map .ct from rfl, h3] at c2
              cases c2
              obtain ⟨k1, rfl⟩ := drop h3
              exact fun G2 σ2 H2 s2 R3 => P2 G2 _ H2 s2 (R3.drop k1)
          | .rt (.im dv) e2, c2 =>
            cases h3 : gone i e2 with
            | none => rw [show goneF i (.rt (.im dv) e2) = (gone i e2).map (.rt (.im dv)) from rfl, h3] at c2; cases c2
            | some e3 =>
              rw [show goneF i (.rt (.im dv) e2) = (gone i e2).map (.rt (.im dv)) from rfl, h3] at c2
              cases c2
              obtain ⟨k1, rfl⟩ := drop h3
              exact fun v G2 σ2 H2 s2 R3 V => P2 v G2 _ H2 s2 (R3.drop k1) V
          | .rt (.ac dv) e2, c2 => cases c2
          | .rt (.br dv) e2, c2 => cases c2
        · cases q
      · rename_i h2
        cases q
        exact ⟨false, T _ _ h2 C g1, (fun z => by cases z), fun _ => P _ _ G' σ' H' s1 R1 ⟨C, dd, fs, g1, rfl, rfl, g4, g5⟩⟩
      · cases q
    · cases q
end
def noX (f : Fsx) : Fs := fun e => match f e with
  | some (.inl fl) => some fl
  | _ => none
theorem sd_noX {X : Cx} {st : Stmt} {f : Fsx} (h : ∀ W, L2N.Takes X W → SDX X W st f) : SD X st (noX f) := by
  refine ⟨_, (h noW fun _ _ ⟨_, _, _, _, _, _, _, _, _, _, _, _, _, _, _, _, w⟩ => w.elim).run, fun m E G0 G e σ H fl D R q P => ?_⟩
  unfold noX at q
  split at q
  · rename_i fl' h1
    cases q
    exact ⟨m, E, G0, G, e, _, R, h1, P⟩
  · cases q
def x_fld (ok : Str → Bool) (k : Str) (a dd : Addr) (i : Nat) (f : Str) : Fe := fun e => if ok k = true then (match e[i]? with
  | some (some (.ob (.xc a' dd' _ ds))) => if a' = a ∧ dd' = dd then (ds.lookup f).map fun d => (.im d, e) else none
  | _ => none) else none
structure FldT (K : PySem.W.Frag) (mg : Str → Option Value) (f : Str) (ok : Str → Bool) : Prop where
  at_ : ∀ k, ok k = true → ∀ C, mg k = some (.ref C) → XfC K C ∧ PySem.W.findIn K (.ref C) f = some none
theorem look_fs {K : PySem.W.Frag} {G : Hp} {f : Str} {d : PyData} : ∀ {fs : List (Str × V)} {ds : List (Str × PyData)}, fs.map (·.1) = ds.map (·.1) → DpAll K G (fs.map (·.2)) (ds.map (·.2)) → ds.lookup f = some d → ∃ v, fs.lookup f = some v ∧ Dp K G v d
  | [], [], _, _, h => by cases h
  | [], _ :: _, h, _, _ => by cases h
  | _ :: _, [], h, _, _ => by cases h
  | (a, v) :: fs, (b, w) :: ds, h1, h2, h3 => by
    obtain ⟨ha, hr⟩ := List.cons.inj (show a :: fs.map (·.1) = b :: ds.map (·.1) from h1)
    subst ha
    rw [List.lookup_cons] at h3 ⊢
    cases h : (f == a) with
    | true =>
      rw [h] at h3
      cases h3
      exact ⟨v, rfl, by cases h2; assumption⟩
    | false =>
      rw [h] at h3
      exact look_fs hr (by cases h2; assumption) h3
section
variable {X : Cx} {a dd C : Addr} {oe : Obj} {pn : List (Addr × Obj)} {n f k : Str} {i : Nat} {pos np : Pos} {ok : Str → Bool}
theorem ed_fld (T : FldT X.K X.mg f ok) (hm : X.mg k = some (.ref C)) (hz : Zc (.ref C) (some dd) oe) (hf : ∃ vs, oe.data = .fields vs) (hN : X.N[i]? = some n := by rfl) (hv : Vis X.env.scope n := by first | exact Or.inl rfl | exact Or.inr (Or.inl rfl) | exact Or.inr (Or.inr rfl))
    (hd : (n == ("__debug__" : Str)) = false := by decide) (hcd : (n == ("__classdict__" : Str)) = false := by decide) (hb : attributeBase (.Name n np) f X.env (eval (.Name n np) X.env) = eval (.Name n np) X.env := by rfl) :
    ED (X.suite a ((a, oe) :: pn)) (.Attribute (.Name n np) f pos) (x_fld ok k a dd i f) := by
  by_cases hok : ok k = true
  · obtain ⟨t1, t2⟩ := T.at_ k hok C hm
    refine ⟨_, pe_xf (X := X) t1 t2 hz hf (pe_var (X := X.suite a ((a, oe) :: pn)) hN hv hd hcd) hb, fun m E G0 G e σ H r e' Q R q P => ?_⟩
    unfold x_fld at q
    rw [if_pos hok] at q
    split at q
    · rename_i a' dd' fs ds h1
      split at q
      · rename_i h2
        obtain ⟨rfl, rfl⟩ := h2
        cases h3 : ds.lookup f with
        | none => rw [h3] at q; cases q
        | some d =>
          rw [h3] at q
          cases q
          obtain ⟨o1, o2, o3, o4⟩ := R.ot i _ h1
          obtain ⟨v, l1, l2⟩ := look_fs o3 o4 h3
          exact ⟨.ref _, o1, rfl, rfl, _, fs, v, rfl, R.gh _ _ o2, l1, P v G H R Stp.refl l2 True.intro⟩
      · cases q
    · cases q
  · refine ⟨fun _ _ _ => False, ⟨fun _ _ _ _ _ _ z => z.elim⟩, fun m E G0 G e σ H r e' Q R q P => ?_⟩
    unfold x_fld at q
    rw [if_neg hok] at q
    cases q
end
end DL
namespace DL
open PySem PySem.Spec PyProof.Rows L2
structure KitOk (K : PySem.W.Frag) (D : Addr) : Prop where
  cl : (PySem.W.clsIn K D).isSome = true
  hg : PySem.W.findIn K (.ref D) "__getattribute__" = some (some (.builtin "BaseException.__getattribute__"))
  hk : PySem.W.findIn K (.ref D) "__getattr__" = some none
  hs : PySem.W.subIn K (.ref D) (.type "BaseException") = some true
  ha : PySem.W.findIn K (.ref D) "__class__" = some (some (.builtin "object.__class__"))
  hn : PySem.W.specialIn K (.builtin "object.__class__") "__get__" = some (some (.builtin "getset_descriptor.__get__"))
  ht : PySem.W.takesIn K (.builtin "object.__class__") = some true
  hm : PySem.W.mroIn K D (.type "object") = some true
end DL
namespace DL
open PySem PySem.Spec PyProof.Rows L2
abbrev XTab := List ((Str × Str) × Bool)
def tabF (tab : XTab) (y : Str) : Str → Option Bool := fun k => tab.lookup (k, y)
structure XcC (K : PySem.W.Frag) (C : Addr) : Prop where
  ox : OexC K C
  xf : XfC K C
  ki : KitOk K C
structure Xi (K : PySem.W.Frag) (mg : Str → Option Value) (cs ys fs : List Str) (tab : XTab) : Prop where
  cl : ∀ x, cs.contains x = true → ∃ C, mg x = some (.ref C) ∧ XcC K C ∧ ∀ f, fs.contains f = true → PySem.W.findIn K (.ref C) f = some none
  gl : ∀ y, ys.contains y = true → ∃ D, mg y = some (.ref D)
  rel : ∀ k y b, tab.lookup (k, y) = some b → cs.contains k = true ∧ ∀ C D, mg k = some (.ref C) → mg y = some (.ref D) → PySem.W.exmOne K (.ref C) (.ref D) = some b ∧ PySem.W.kitOne K (.ref C) (.ref D) = some b
section
variable {K : PySem.W.Frag} {mg : Str → Option Value} {cs ys fs : List Str} {tab : XTab}
theorem Xi.sub (T : Xi K mg cs ys fs tab) (y : Str) (h : ys.contains y = true := by decide +kernel) : ∃ D, mg y = some (.ref D) ∧ SubT K mg (.ref D) (tabF tab y) := by
  obtain ⟨D, hD⟩ := T.gl y h
  exact ⟨D, hD, fun k b z C hC => ((T.rel k y b z).2 C D hC hD).1⟩
theorem Xi.fld (T : Xi K mg cs ys fs tab) (f : Str) (h : fs.contains f = true := by decide +kernel) : FldT K mg f (fun k => cs.contains k) := by
  refine ⟨fun k z C hC => ?_⟩
  obtain ⟨C', h1, h2, h3⟩ := T.cl k z
  rw [hC] at h1
  cases h1
  exact ⟨h2.xf, h3 f h⟩
end
section
variable {X : Cx} {W : WX} {x n : Str} {i : Nat} {body suite : List Stmt} {b0 : Stmt} {np pos pos' : Pos} {fb : Fsx} {sub : Str → Option Bool} {g : Su}
theorem sdx_tryT (hs : X.stack = X.env :: X.outer) (hf : X.env.frame = some X.env.locals) (hN : X.N.Nodup) (tk : L2N.Takes X W) (T : ∃ D, X.mg x = some (.ref D) ∧ SubT X.K X.mg (.ref D) sub)
    (hb : ∀ (W' : WX) (pn : List (Addr × Obj)) (xe : Value → Shared → Prop), L2N.Takes (X.tr pn xe) W' → PassesOwn (model X.prog X.w) X.A X.env xe → SsDX (X.tr pn xe) W' body fb)
    (hsu : ∀ (k : Str) (C a dd : Addr) (oe : Obj) (pn : List (Addr × Obj)), X.mg k = some (.ref C) → L2N.Zn (.ref C) (some dd) oe → (∃ vs, oe.data = .fields vs) → SsD (X.suite a ((a, oe) :: pn)) (b0 :: suite) (g k a dd))
    (hi : X.N[i]? = some n := by rfl) (hln : X.env.kindOf n = some .local := by rfl) (hg : Gl X x := by rfl) (hdb : (x == ("__debug__" : Str)) = false := by decide) :
    SDX X W (.Try body [.ExceptHandler (some (.Name x np)) (some n) (b0 :: suite) pos'] [] [] pos) (x_try fb sub i g) := by
  obtain ⟨D, h1, h2⟩ := T
  exact sdx_try hs hf hN tk h2 ⟨hg, hdb, .inl h1⟩ hb hsu hi hln
theorem sd_tryT (hs : X.stack = X.env :: X.outer) (hf : X.env.frame = some X.env.locals) (hN : X.N.Nodup) (T : ∃ D, X.mg x = some (.ref D) ∧ SubT X.K X.mg (.ref D) sub)
    (hb : ∀ (W' : WX) (pn : List (Addr × Obj)) (xe : Value → Shared → Prop), L2N.Takes (X.tr pn xe) W' → PassesOwn (model X.prog X.w) X.A X.env xe → SsDX (X.tr pn xe) W' body fb)
    (hsu : ∀ (k : Str) (C a dd : Addr) (oe : Obj) (pn : List (Addr × Obj)), X.mg k = some (.ref C) → L2N.Zn (.ref C) (some dd) oe → (∃ vs, oe.data = .fields vs) → SsD (X.suite a ((a, oe) :: pn)) (b0 :: suite) (g k a dd))
    (hi : X.N[i]? = some n := by rfl) (hln : X.env.kindOf n = some .local := by rfl) (hg : Gl X x := by rfl) (hdb : (x == ("__debug__" : Str)) = false := by decide) :
    SD X (.Try body [.ExceptHandler (some (.Name x np)) (some n) (b0 :: suite) pos'] [] [] pos) (noX (x_try fb sub i g)) := sd_noX fun _ tk => sdx_tryT hs hf hN tk T hb hsu hi hln hg hdb
end
def oexB (K : PySem.W.Frag) (C : Addr) : Bool := match K.lookup C with
  | some ⟨.type "type", _, .cls cd, sl⟩ => (match cd.mro, sl.toList with
    | .ref C' :: bm, [_, _, _, _, some (.builtin n), _] => decide (C' = C) && (decide (n = "ValueError.__new__") && (cd.hasDict && (!cd.hasDel && PySem.HandSPX.refsVE bm)))
    | _, _ => false)
  | _ => false
theorem oexB_ok {K : PySem.W.Frag} {C : Addr} (h : oexB K C = true) : ∃ nm q N bs bm sn sub ab col dd k0 k1 k2 k3 k5, K.lookup C = some (excClassObj nm q C N bs bm true sn sub ab col dd k0 k1 k2 k3 k5 "ValueError.__new__") ∧ PySem.HandSPX.refsVE bm = true := by
  unfold oexB at h
  split at h
  · rename_i dd cd sl ho
    split at h
    · rename_i C' bm k0 k1 k2 k3 n k5 hm hs
      obtain ⟨h1, h⟩ := He.ba h
      obtain ⟨h2, h⟩ := He.ba h
      obtain ⟨h3, h⟩ := He.ba h
      obtain ⟨h4, h5⟩ := He.ba h
      have e1 := of_decide_eq_true h1
      have e2 := of_decide_eq_true h2
      subst e1 e2
      obtain ⟨nm, bs, mro, ns, qn, hd, sn, sub, ab, col, del⟩ := cd
      dsimp only at hm h3 h4
      subst hm h3
      have e4 : del = false := by simpa using h4
      subst e4
      obtain ⟨l⟩ := sl
      have e5 : l = [k0, k1, k2, k3, some (.builtin "ValueError.__new__"), k5] := hs
      subst e5
      exact ⟨nm, qn, ns, bs, bm, sn, sub, ab, col, dd, k0, k1, k2, k3, k5, ho, h5⟩
    · cases h
  · cases h
def xcB (K : PySem.W.Frag) (C : Addr) : Bool := oexB K C && (decide (PySem.W.findIn K (.ref C) "__setattr__" = some (some (.builtin "object.__setattr__"))) && (decide (PySem.W.subIn K (.ref C) (.type "BaseException") = some true) && (decide (PySem.W.typeIn K (.ref C) = some (.type "type")) && (PySem.W.keepIn K (.ref C) && (xfB K C &&
  ((PySem.W.clsIn K C).isSome && (decide (PySem.W.findIn K (.ref C) "__class__" = some (some (.builtin "object.__class__"))) && (decide (PySem.W.specialIn K (.builtin "object.__class__") "__get__" = some (some (.builtin "getset_descriptor.__get__"))) && (decide (PySem.W.takesIn K (.builtin "object.__class__") = some true) && decide (PySem.W.mroIn K C (.type "object") = some true))))))))))
theorem xcB_ok {K : PySem.W.Frag} {C : Addr} (h : xcB K C = true) : XcC K C := by
  obtain ⟨h1, h⟩ := He.ba h
  obtain ⟨h2, h⟩ := He.ba h
  obtain ⟨h3, h⟩ := He.ba h
  obtain ⟨h4, h⟩ := He.ba h
  obtain ⟨h5, h⟩ := He.ba h
  obtain ⟨h6, h⟩ := He.ba h
  obtain ⟨h7, h⟩ := He.ba h
  obtain ⟨h8, h⟩ := He.ba h
  obtain ⟨h9, h⟩ := He.ba h
  obtain ⟨h10, h11⟩ := He.ba h
  have x := xfB_ok h6
  exact ⟨⟨oexB_ok h1, of_decide_eq_true h2, of_decide_eq_true h3, of_decide_eq_true h4, h5⟩, x, ⟨h7, x.ga, x.gg, x.exC, of_decide_eq_true h8, of_decide_eq_true h9, of_decide_eq_true h10, of_decide_eq_true h11⟩⟩
/-- a class with its __init__ -/
def iniB (K : PySem.W.Frag) (x : Str) : Bool := decide (PySem.W.findIn K (.ref (He.ga K x)) "__init__" = some (some (.ref (He.ma K (He.ga K x) "__init__")))) && decide (PySem.W.typeIn K (.ref (He.ma K (He.ga K x) "__init__")) = some (.type "function"))
def exB (cs ys fs : List Str) (tab : XTab) (K : PySem.W.Frag) : Bool :=
  (cs.all fun x => (He.Fa.glo x).ok K && (xcB K (He.ga K x) && (iniB K x && fs.all fun f => decide (PySem.W.findIn K (.ref (He.ga K x)) f = some none)))) &&
    ((ys.all fun y => (He.Fa.glo y).ok K) && (tab.all fun t => cs.contains t.1.1 && (ys.contains t.1.2 && (decide (PySem.W.exmOne K (.ref (He.ga K t.1.1)) (.ref (He.ga K t.1.2)) = some t.2) && decide (PySem.W.kitOne K (.ref (He.ga K t.1.1)) (.ref (He.ga K t.1.2)) = some t.2)))))
section
variable {K : PySem.W.Frag} {h : Heap} {mg : Str → Option Value} {cs ys fs : List Str} {tab : XTab}
theorem look_mem {α β : Type} [BEq α] [LawfulBEq α] {a : α} {b : β} : ∀ {l : List (α × β)}, l.lookup a = some b → (a, b) ∈ l
  | [], h => by cases h
  | (c, d) :: l, h => by
    rw [List.lookup_cons] at h
    cases q : (a == c) with
    | true =>
      rw [q] at h
      cases h
      rw [eq_of_beq q]
      exact List.mem_cons_self
    | false =>
      rw [q] at h
      exact List.mem_cons_of_mem _ (look_mem h)
theorem exB_xi (X : K.In h) (G : h.Ns mainGlobals mg) (c : exB cs ys fs tab K = true) : Xi K mg cs ys fs tab := by
  obtain ⟨c1, c⟩ := He.ba c
  obtain ⟨c2, c3⟩ := He.ba c
  refine ⟨fun x hx => ?_, fun y hy => ?_, fun k y b z => ?_⟩
  · obtain ⟨h1, h2⟩ := He.ba (List.all_eq_true.mp c1 x (List.contains_iff_mem.mp hx))
    obtain ⟨h2, h3⟩ := He.ba h2
    obtain ⟨h3, h4⟩ := He.ba h3
    exact ⟨_, He.glo_ok X G h1, xcB_ok h2, fun f hf => of_decide_eq_true (List.all_eq_true.mp h4 f (List.contains_iff_mem.mp hf))⟩
  · exact ⟨_, He.glo_ok X G (List.all_eq_true.mp c2 y (List.contains_iff_mem.mp hy))⟩
  · obtain ⟨h1, h2⟩ := He.ba (List.all_eq_true.mp c3 ((k, y), b) (look_mem z))
    obtain ⟨h2, h3⟩ := He.ba h2
    obtain ⟨h3, h4⟩ := He.ba h3
    refine ⟨h1, fun C D hC hD => ?_⟩
    have g1 := He.glo_ok X G (He.ba (List.all_eq_true.mp c1 k (List.contains_iff_mem.mp h1))).1
    have g2 := He.glo_ok X G (List.all_eq_true.mp c2 y (List.contains_iff_mem.mp h2))
    rw [hC] at g1
    rw [hD] at g2
    cases g1
    cases g2
    exact ⟨of_decide_eq_true h3, of_decide_eq_true h4⟩
theorem exB_ini {P : Program} {w : World} {base : Heap} (X : K.In h) (G : h.Ns mainGlobals mg) (c : exB cs ys fs tab K = true) {x : Str} {ns ps : List Str} {fd : FuncData} (hx : cs.contains x = true)
    (F1 : ∀ C, mg x = some (.ref C) → XcC K C → (∀ f, fs.contains f = true → PySem.W.findIn K (.ref C) f = some none) → FnOk P w K mg base CX0 1 (He.fAd K (x, some "__init__")) fd ps (spI C ns)) (hb : Binds K fd ps []) : ExT P w K mg base x ns := by
  obtain ⟨c1, _⟩ := He.ba c
  obtain ⟨h1, h2⟩ := He.ba (List.all_eq_true.mp c1 x (List.contains_iff_mem.mp hx))
  obtain ⟨h2, h3⟩ := He.ba h2
  obtain ⟨h3, h4⟩ := He.ba h3
  obtain ⟨h5, h6⟩ := He.ba h3
  have g1 := He.glo_ok X G h1
  have x1 := xcB_ok h2
  exact ⟨_, _, fd, ps, g1, x1.ox, of_decide_eq_true h5, of_decide_eq_true h6, F1 _ g1 x1 fun f hf => of_decide_eq_true (List.all_eq_true.mp h4 f (List.contains_iff_mem.mp hf)), hb⟩
end
def obsX (fa : List He.Fa) (fn : List He.DefD) (ex : PySem.W.Frag → Bool) (K : PySem.W.Frag) : He.AlD × Bool := (He.obsD fa fn K, ex K)
def obsXG (n : Nat) (fa : List He.Fa) (fn : List He.DefD) (ex : PySem.W.Frag → Bool) (g : Addr → Option Obj) : He.AlD × Bool := obsX fa fn ex (He.frG g (He.asD g n))
def SaysX (fa : List He.Fa) (fn : List He.DefD) (ex : PySem.W.Frag → Bool) (K : PySem.W.Frag) : Prop := obsX fa fn ex K = (He.valD fn, true)
def hookX (n : Nat) (fa : List He.Fa) (fn : List He.DefD) (ex : PySem.W.Frag → Bool) : PySem.W.Hook where
  α := He.AlD × Bool
  obs := fun s => obsXG n fa fn ex s.heap.get?
  val := fun _ => (He.valD fn, true)
  says := fun _ h => ∃ K : PySem.W.Frag, K.In h ∧ SaysX fa fn ex K
  of := fun _ _ e => ⟨_, He.frG_in, e⟩
  keeps := fun _ _ _ ⟨K, hK, c⟩ k => ⟨K, PySem.W.Frag.In.keeps hK k, c⟩
theorem obsXG_eq {n : Nat} {fa : List He.Fa} {fn : List He.DefD} {ex : PySem.W.Frag → Bool} {g : Addr → Option Obj} {s : Shared} (h : ∀ a, g a = s.heap.get? a) : obsXG n fa fn ex g = (hookX n fa fn ex).obs s := by
  have e : g = s.heap.get? := funext h
  subst e
  rfl
theorem SaysX.d {fa : List He.Fa} {fn : List He.DefD} {ex : PySem.W.Frag → Bool} {K : PySem.W.Frag} (c : SaysX fa fn ex K) : He.SaysD fa fn K := congrArg Prod.fst c
theorem SaysX.x {fa : List He.Fa} {fn : List He.DefD} {ex : PySem.W.Frag → Bool} {K : PySem.W.Frag} (c : SaysX fa fn ex K) : ex K = true := congrArg Prod.snd c
end DL
namespace DL
open PySem PySem.Spec PyProof.Rows L2
/-- a class's j-th statement -/
def inCls (s : Stmt) (j : Nat) : Stmt := match s with
  | .ClassDef _ _ _ b _ _ _ _ _ _ _ => b.getD j (.Pass ⟨0, 0, 0, 0⟩)
  | _ => .Pass ⟨0, 0, 0, 0⟩
section
variable {P : Program} {w : World} {K : PySem.W.Frag} {mg : Str → Option Value} {base : Heap} {x qual : Str} {params : Arguments} {body : List Stmt} {scope : Scope} {dvs dvs' : List V} {kws : List (Str × V)} {f : Addr} {fd : FuncData} {k : Nat} {sp : Sp} {ps : List Str}
theorem kfX (F : FunD K x qual params body scope dvs kws f fd) (ok : FnOk P w K mg base (L2N.CX P w) k f fd ps sp) (g : mg x = some (.ref f)) (b : ∃ ds, Vals dvs' ds ∧ Binds K fd ps ds) : KfX P w K mg base k x sp dvs' := by
  obtain ⟨ds, h1, h2⟩ := b
  exact ⟨f, fd, ps, ds, ok, g, F.kp, h2, h1⟩
theorem kfXN (F : FunD K x qual params body scope [] kws f fd) (ok : FnOk P w K mg base (L2N.CX P w) k f fd ps sp) (g : mg x = some (.ref f))
    (h : ∀ (kV doc pm : Value) (an : Option Addr) (cdv ct : Value) (us : List Value), us.length = ps.length → bindArgs (PySem.W.fnOf x qual params body scope .none kV doc pm an cdv ct) ⟨us, []⟩ = pure (ps.zip us)) : KfX P w K mg base k x sp [] :=
  kfX F ok g ⟨[], .nil, F.bindsN h⟩
end
end DL
namespace DL
open PySem PySem.Spec PyProof.Rows L2
def combI (a b : Int) : Option Int := if 0 ≤ a ∧ 0 ≤ b then (if b > a then some 0 else if min b (a - b) ≤ 9000 ∧ (Builtin.Math.fallingProduct a (min b (a - b)).toNat / Builtin.Math.fallingProduct (min b (a - b)) (min b (a - b)).toNat).natAbs.log2 < bitsLine then some (PySem.W.mcComb a b) else none) else none
def c_comb : List PyData → Option Rs
  | [.int a, .int b] => (combI a b).map fun c => .im (.int c)
  | _ => none
def rComb : List V → Hp → VK → Prop := fun vs H Q => ∃ a b c : Int, vs = [.int a, .int b] ∧ combI a b = some c ∧ Q (.int c) H
theorem cr_comb {X : Cx} : CallR X (.builtin "math.comb") rComb := by
  rintro pins s σ H vs us Q I r ⟨a, b, c, rfl, h, q⟩
  obtain ⟨t, u, rfl⟩ := Vals.int2 r
  unfold combI at h
  split at h
  · rename_i h0
    split at h
    · rename_i h1
      cases h
      exact call_function_meets PySem.W.MGF.kind_comb PySem.W.MGF.plain_comb PySem.W.MGF.entry_comb (PySem.W.MGF.args_comb _ _) (PySem.W.mc_run_comb0 a t b u (by omega) (by omega) h1).meets ⟨.int _, H, I.tok _, ⟨_, rfl⟩, q⟩
    · rename_i h1
      split at h
      · rename_i h2
        cases h
        have e : PySem.W.mcComb a b = Builtin.Math.fallingProduct a (min b (a - b)).toNat / Builtin.Math.fallingProduct (min b (a - b)) (min b (a - b)).toNat := if_neg h1
        rw [e] at q
        refine call_function_meets PySem.W.MGF.kind_comb PySem.W.MGF.plain_comb PySem.W.MGF.entry_comb (PySem.W.MGF.args_comb _ _) (PySem.W.mc_run_comb a t b u (by omega) (by omega) h1 ?_ ?_ (by omega) h2.2).meets ⟨.int _, H, I.tok _, ⟨_, rfl⟩, q⟩
        · have : Builtin.Math.maxSsize = 2 ^ 63 - 1 := rfl
          rw [this]
          omega
        · have : Builtin.Math.manyFactors = 20000 := rfl
          rw [this]
          omega
      · cases h
  · cases h
theorem vc_comb {K : PySem.W.Frag} : VC K rComb c_comb := by
  intro m E G0 G e σ H vs ds rr Q R l q P
  unfold c_comb at q
  split at q
  · rename_i a b
    cases h : combI a b with
    | none => rw [h] at q; cases q
    | some c =>
      rw [h] at q
      cases q
      obtain ⟨u, v, rfl, l1, l2⟩ := lv2 l
      exact ⟨a, b, c, by rw [l1.int, l2.int], h, P.now R (.int _) True.intro⟩
  · cases q
section
variable {X : Cx} {id : String} {x : Str} {p pos : Pos} {a : Expr} {es : List Expr} {fa : Fa} {r : List V → Hp → VK → Prop} {φ : List PyData → Option Rs}
theorem ed_cm (hv : VC X.K r φ) (hc : CallR X (.builtin id) r) (hm : X.mg x = some (.builtin id)) (h : AD X (a :: es) fa) (hg : Gl X x := by rfl) (hdb : (x == ("__debug__" : Str)) = false := by decide)
    (he : starEach (a :: es) X.env = (false, eval a X.env) :: starEach es X.env := by rfl) (hpl : (backTo pos (starEach es X.env)).any (·.1) = false := by rfl) : ED X (.Call (.Name x p) (a :: es) [] pos) (x_cb φ fa) := by
  obtain ⟨t, pa, k⟩ := h
  exact ⟨_, pe_callBfun hc hg hm pa hdb he hpl, cb_ok hv k⟩
end
def blB (l : List (Str × String)) (K : PySem.W.Frag) : Bool := l.all fun p => decide (PySem.W.nsIn K mainGlobals p.1 = some (some (.builtin p.2)))
theorem blB_ok {K : PySem.W.Frag} {h : Heap} {mg : Str → Option Value} {l : List (Str × String)} (X : K.In h) (G : h.Ns mainGlobals mg) (c : blB l K = true) (x : Str) (id : String) (hm : (x, id) ∈ l) : mg x = some (.builtin id) :=
  PySem.W.mg_of X G (of_decide_eq_true (List.all_eq_true.mp c (x, id) hm))
end DL
namespace DL
open L2 PySem PySem.Spec PySem.W PyProof.Rows
def bD : Option Rs → Option Bool
  | some (.im (.bool b)) => some b
  | _ => none
def vD : Option Rs → Option PyData
  | some (.im d) => some d
  | _ => none
theorem bD_ok {o : Option Rs} {b : Bool} (h : bD o = some b) : o = some (.im (.bool b)) := by
  unfold bD at h
  split at h
  · cases h
    rfl
  · cases h
theorem bD_eq {α : Type} [DecidableEq α] {f : α → PyData} [E : EqE f] (h : E.d ≤ 64) (a b : α) : bD (p_eq (f a) (f b)) = some (decide (a = b)) := by rw [o_eq h]; rfl
theorem o_comb {a b c : Int} (h : combI a b = some c) : c_comb [.int a, .int b] = some (.im (.int c)) := by
  show (combI a b).map _ = _
  rw [h]
  rfl
end DL
namespace DL
open L2 PySem PySem.Spec PySem.W PyProof.Rows
section
variable {l : Addr} {items : Array Value} {n : Nat} {dd : Option Addr} {sl : Array (Option Value)} {u : Tok} {x : Int}
theorem tm_none (c0 : (decide (x < -(2 ^ 63)) || decide (x ≥ 2 ^ 63)) = false) (c1 : (items.isEmpty || x == 1) = false) (c2 : (decide (x ≤ 0) || items.isEmpty) = true) : Meets (Builtin.«tuple.__mul__» ⟨[.ref l, .int x u], []⟩) (fun _ R s => s.heap.get? l = some { cls := .type "tuple", dict := dd, data := .seq items n, slots := sl } ∧
    R (.ok (.ret (.ref s.heap.objs.size))) { s with heap := s.heap.push { cls := Value.type "tuple", data := Data.seq #[] }, toks := s.toks }) :=
  .of_wp fun prog w A R s h => by
    obtain ⟨hp, g, d, tk, os⟩ := s
    obtain ⟨hl, k⟩ := h
    have ix := AutoSeq1.idx_int
    wp_walk using wpAny_loadPart' hl
    repeat (first
      | (refine wpAny_ite_false (decide_eq_false (by rw [c0]; exact Bool.false_ne_true)) ?_; wp_walk using wpAny_loadPart' hl)
      | (refine wpAny_ite_false (decide_eq_false (by rw [c1]; exact Bool.false_ne_true)) ?_; wp_walk using wpAny_loadPart' hl)
      | (refine wpAny_ite_true (by rw [c2]; rfl) ?_; wp_walk using wpAny_loadPart' hl)
      | (refine wpAny_ite_true (by rw [c2]) ?_; wp_walk using wpAny_loadPart' hl))
    exact ⟨_, rfl, k⟩
end
end DL
namespace DL
open PySem PySem.Spec PySem.W PyProof.Rows L2 Calls SeqAt
section
variable {prog : Program} {w : World} {A : Around} {E : Value → Shared → Prop} {s : Shared}
/-- tuple's own __lt__ -/
theorem oneLt_two {xs ys : List PyData} {a b : Value} {as bs : List Addr} {Q : Bool → Shared → Prop} (ra : Reads s.heap a (.tuple xs) as) (rb : Reads s.heap b (.tuple ys) bs) (hal : alikeAll xs ys = true)
    (hu : A.units + min (PyData.tuple xs).depth (PyData.tuple ys).depth < cLine) (hq : Q (dataLt (.tuple xs) (.tuple ys)) s) : wpAny (model prog w) A (oneLt' true a b) Q E s := by
  cases ra with
  | @tuple p o vs n _ _ h1 h2 h3 h4 =>
    cases rb with
    | @tuple p2 o2 vs2 n2 _ _ k1 k2 k3 k4 =>
      have e1 : vs.size = xs.length := by simpa using ReadsAll.length _ _ _ h4
      have e2 : vs2.size = ys.length := by simpa using ReadsAll.length _ _ _ k4
      rw [dataLt_tuple, ← firstLt_toks xs ys hal, ← e1, ← e2] at hq
      obtain ⟨cls, dd, data, sl⟩ := o
      obtain ⟨cls2, dd2, data2, sl2⟩ := o2
      dsimp only at h2 h3 k2 k3
      subst h2 h3 k2 k3
      rw [oneLt'_eq]
      simp only [if_true]
      refine wpAny_bind (wpAny_cRoomFor (room_here hu) (wpAny_bind (wpAny_callSpecialIfBound?_slot (T := "tuple") ⟨_, h1, rfl⟩ F.slot_tuple_lt ?_)))
      refine call_meets F.slot_tuple_lt ⟨_, h1, rfl⟩ F.entry_tuple_lt (F.args_tuple_lt_2 _ _) (tuple_ltAt p p2 vs vs2 n n2 dd dd2 sl sl2 (pairEq xs ys) fun j => dataLt (xs.getD j .none) (ys.getD j .none)) ⟨h1, k1, fun j j1 j2 => ?_, fun j j1 j2 hj => ?_, ?_⟩
      · have z := eqAt_alikeAll xs ys A.in1 s vs.toList vs2.toList _ _ h4 k4 hal (room_in hu) j (by simpa using j1) (by simpa using j2)
        simpa using z
      · have z := rcLt_alikeAll xs ys A.in1 s vs.toList vs2.toList _ _ h4 k4 hal (room_in hu) j (by simpa using j1) (by simpa using j2) hj
        simpa using z
      · exact wpAny_truthy_bool hq
/-- the first items of tuples -/
theorem firsts_mix {M : Model} : ∀ (vs : List Value) (ks : List (List Int)) {Q : List (Option Value) → Shared → Prop}, EachIs (fun v k => ∃ as, Reads s.heap v (tI k) as) vs ks → (∀ L : List (Option Value), L.map Option.isSome = ks.map (fun k => !k.isEmpty) → Q L s) → wpAny M A (vs.mapM firstOfTuple') Q E s
  | _, _, Q, .nil, h => by
    rw [List.mapM_nil]
    exact wpAny_pure (h [] rfl)
  | v :: vs, k :: ks, Q, .cons r t, h => by
    obtain ⟨as, r⟩ := r
    cases r with
    | @tuple p o xs n _ _ h1 h2 h3 h4 =>
      rw [List.mapM_cons]
      refine wpAny_bind ?_
      rw [kas_first_eq]
      refine wpAny_bind (Looks.here (show Looks M s.heap (typeOf (.ref p)) o.cls from (Looks.ld h1).andThen .now) ?_)
      rw [h2, if_neg (by first | decide | simp)]
      refine wpAny_bind (listItems_at h1 h3 (wpAny_pure ?_))
      refine wpAny_bind (firsts_mix vs ks t fun L hL => wpAny_pure (h (xs[0]? :: L) ?_))
      rw [List.map_cons, List.map_cons, hL]
      congr 1
      have e : xs.size = (k.map PyData.int).length := by simpa using ReadsAll.length _ _ _ h4
      rw [List.length_map] at e
      cases k with
      | nil =>
        have z : xs[0]? = none := Array.getElem?_eq_none (by rw [e]; exact Nat.le_refl _)
        rw [z]
        rfl
      | cons i k =>
        have l0 : 0 < xs.size := by
          rw [e]
          exact Nat.succ_pos _
        rw [Array.getElem?_eq_getElem l0]
        rfl
def mixKind (ks : List (List Int)) : SortKind := match ks with
  | [] :: _ => oneType'
  | _ => general'
theorem kind_mix {M : Model} {vs : List Value} {ks : List (List Int)} {Q : SortKind → Shared → Prop} (e : EachIs (fun v k => ∃ as, Reads s.heap v (tI k) as) vs ks) (h2 : 2 ≤ vs.length) (hk : (ks.all fun k => !k.isEmpty) = false) (h : Q (mixKind ks) s) : wpAny M A (keyKind' vs.toArray) Q E s := by
  rw [kat_kind_eq, List.mapM_toArray, map_eq_pure_bind]
  refine wpAny_bind (wpAny_bind (firsts_mix vs ks e fun L hL => wpAny_pure ?_))
  have a1 : (L.toArray.all fun x => x.isSome) = false := by
    have z : (L.map Option.isSome).all id = (ks.map fun k => !k.isEmpty).all id := by rw [hL]
    rw [List.all_map, List.all_map] at z
    rw [List.all_toArray]
    exact z.trans hk
  rw [if_neg (by rw [a1]; exact Bool.false_ne_true)]
  have looks : ∀ v ∈ vs, Looks M s.heap (typeOf v) (.type "tuple") := fun v hv => by
    obtain ⟨k, _, as, r⟩ := e.left v hv
    exact looks_reads r
  match ks, L, hL, h with
  | [], _, _, _ => cases hk
  | [] :: ks, x :: L, hL, h =>
    have hx : x = none := by
      have := (List.cons.inj hL).1
      cases x with
      | none => rfl
      | some y => cases this
    subst hx
    rw [if_neg (by simp)]
    rw [oneTypeOnly'_eq, List.mapM_toArray, map_eq_pure_bind]
    refine wpAny_bind (wpAny_bind (wpAny_bind (kas_mapM (r := .type "tuple") _ (fun v hv Q' hq => (looks v hv).here hq) (wpAny_pure ?_))))
    have all : ((List.map (fun _ => Value.type "tuple") vs).toArray.all fun x => x == Value.type "tuple") = true := by
      simp only [List.all_toArray, List.all_map, List.all_eq_true]
      exact fun _ _ => beq_self_eq_true _
    have at0 : (List.map (fun _ => Value.type "tuple") vs).toArray[0]? = some (.type "tuple") := by
      cases vs with
      | nil => exact absurd h2 (by decide)
      | cons v vs => rfl
    rw [at0]
    simp only [all, if_true]
    exact wpAny_pure (wpAny_pure h)
  | (i :: k) :: ks, x :: L, hL, h =>
    obtain ⟨y, rfl⟩ : ∃ y, x = some y := by
      have := (List.cons.inj hL).1
      cases x with
      | none => cases this
      | some y => exact ⟨y, rfl⟩
    rw [if_pos (by simp)]
    exact wpAny_pure h
theorem sorts_mix {vs : List Value} {ks : List (List Int)} (e : EachIs (fun v k => ∃ as, Reads s.heap v (tI k) as) vs ks) (hk : (ks.all fun k => !k.isEmpty) = false) (hu : ∀ k, k ∈ ks → A.units + (tI k).depth < cLine) : SortsAt prog w A s (dataKind s.heap (ks.map tI)) vs := by
  have hal : AllAlike (ks.map tI) := AllAlike.of alike_tI
  have e' : EachIs (fun v d => ∃ as, Reads s.heap v d as) vs (ks.map tI) := each_map (R := fun v d => ∃ as, Reads s.heap v d as) tI e
  refine ⟨fun v hv => ?_, mixKind ks, ?_, fun h2 E Q hq => kind_mix e h2 hk hq⟩
  · obtain ⟨d, hd, as, r⟩ := e'.left v hv
    exact ⟨_, dataKind_some hal hd r⟩
  · intro E x y a b Q ha hb hq
    obtain ⟨d, as, hd, ra, rfl⟩ := dataKind_inv ha
    obtain ⟨d', as', hd', rb, rfl⟩ := dataKind_inv hb
    obtain ⟨k, mk, rfl⟩ := List.mem_map.mp hd
    obtain ⟨k', mk', rfl⟩ := List.mem_map.mp hd'
    have hdd := hal _ hd _ hd'
    have room : A.units + min (tI k).depth (tI k').depth < cLine := Nat.lt_of_le_of_lt (Nat.add_le_add_left (Nat.min_le_left _ _) _) (hu k mk)
    have hq' : Q (dataLt (tI k) (tI k')) s := hq
    have one : wpAny (model prog w) A (oneLt' true x y) Q E s := oneLt_two ra rb (by simpa [tI, alike] using hdd) room hq'
    have gen : wpAny (model prog w) A (oneLt' false x y) Q E s := oneLt_alike (fun z => by cases z) ra rb hdd (by intro z; cases z) room hq'
    unfold mixKind
    split
    · exact one
    · exact gen
end
section
variable {X : Cx}
def rSortM (K : PySem.W.Frag) : List V → Hp → VK → Prop := fun vs H Q => ∃ (G : Hp) (a : Addr) (ws : List V) (ks : List (List Int)), Same G H ∧ vs = [.ref a] ∧ SqL K H a ws ∧ DpAll K G ws (ks.map tI) ∧ (ks.all fun k => !k.isEmpty) = false ∧
  ∀ ys p, DpAll K G ys ((upT ks).map tI) → H p = none → Q (.ref p) (upd H p (.lst ys))
theorem cr_sortM (hu : X.A.units + 64 < cLine) : CallR X (.builtin "sorted") (rSortM X.K) := by
  rintro pins s σ H vs us Q I r ⟨G, a, ws, ks, sg, rfl, hs, hd, ok, q⟩
  obtain ⟨its, rv, pl, hz⟩ := I.list hs
  rw [Vals.ref1 r]
  have e := isK_all hd rv
  have hl : its.length ≤ sizeLine := by
    rw [← rv.length]
    exact hz
  have er := (isK_reads I sg e).mono fun v k (h : ∃ as, Reads s.heap v (tI k) as) => (⟨h.choose, PyProof.Rows.Reads.keeps (fun _ _ => sorting_copy_old) h.choose_spec⟩ : ∃ as, Reads (sortingHeap (copyHeap s.heap its) (s.heap.objs.size + 1) its) v (tI k) as)
  refine sorted_vals pl.isList (sorts_mix (s := { s with heap := sortingHeap (copyHeap s.heap its) (s.heap.objs.size + 1) its }) er ok fun k _ => ?_) hl ?_
  · have := depth_tI k
    show X.A.units + 2 + _ < _
    omega
  · have eo := sortVals_data false e er (AllAlike.of alike_tI)
    rw [dataLe_tups] at eo
    obtain ⟨ys, r2, d2⟩ := isK_back eo
    obtain ⟨c, hat⟩ := sortedAll_at s.heap its (List.toArray (sortVals (dataKind (sortingHeap (copyHeap s.heap its) (s.heap.objs.size + 1) its) (ks.map tI)) false its its))
    have hl2 : ys.length ≤ sizeLine := by
      have z := (upT_perm ks).length_eq
      unfold upT at z
      rw [dpAll_len d2, List.length_map, z, ← e.length]
      exact hl
    exact ⟨.ref _, upd H (s.heap.objs.size + 1) (.lst ys), I.laid (t' := s.toks) (fun _ _ => sortedAll_old) (Nat.le_succ _) ⟨hl2, _, c, r2, hat⟩, rfl, q ys _ d2 (I.hok.fresh (Nat.le_succ _))⟩
end
def c_sortedM : List PyData → Option Rs
  | [.list ds] => (match unT ds with
    | some ks => if (ks.all fun k => !k.isEmpty) = false then some (.ac ((upT ks).map tI)) else none
    | none => none)
  | _ => none
theorem vc_sortedM {K : PySem.W.Frag} : VC K (rSortM K) c_sortedM := by
  intro m E G0 G e σ H vs ds rr Q R l q P
  unfold c_sortedM at q
  split at q
  · split at q
    · rename_i ks h
      split at q
      · rename_i ok
        cases q
        rw [unT_ok h] at l
        obtain ⟨v, rfl, lv⟩ := lv1 l
        obtain ⟨p, ws, rfl, s1, k⟩ := lv.list R.gh
        refine ⟨G, p, ws, ks, R.gh, rfl, s1, k, ok, fun ys p2 d hp => ?_⟩
        obtain ⟨R', S', V', N'⟩ := R.newL hp d
        exact P _ _ _ R' S' V' N'
      · cases q
    · cases q
  · cases q
def c_sortedB : List PyData → Option Rs := orC c_sortedA c_sortedM
theorem vc_sortedB {K : PySem.W.Frag} : VC K (fun vs H Q => (rSortedI K vs H Q ∨ rSortTL K vs H Q) ∨ rSortM K vs H Q) c_sortedB := VC.or vc_sortedA vc_sortedM
theorem cr_sortedB {X : Cx} (hu : X.A.units + 64 < cLine) : CallR X (.builtin "sorted") (fun vs H Q => (rSortedI X.K vs H Q ∨ rSortTL X.K vs H Q) ∨ rSortM X.K vs H Q) := CallR.or (cr_sortedA hu) (cr_sortM hu)
theorem o_sortedBI {l : List Int} : c_sortedB [ls PyData.int l] = some (.ac ((upI l).map PyData.int)) := by
  unfold c_sortedB orC
  rw [o_sortedL]
theorem o_sortedBT {l : List (List Int)} : c_sortedB [ls (tp PyData.int) l] = some (.ac ((upT l).map (tp PyData.int))) := by
  have u : unT (l.map (tp PyData.int)) = some l := unT_map l
  cases l with
  | nil =>
    show c_sortedB [ls PyData.int []] = _
    rw [o_sortedBI]
    simp [upI, upT, sortB]
  | cons k l =>
    have n1 : c_sortedI [ls (tp PyData.int) (k :: l)] = none := rfl
    by_cases ok : okT (k :: l) = true
    · have q : c_sortedT [ls (tp PyData.int) (k :: l)] = some (.ac ((upT (k :: l)).map tI)) := by
        unfold c_sortedT
        dsimp only
        rw [u]
        dsimp only
        rw [if_pos ok]
      unfold c_sortedB c_sortedA orC
      rw [n1]
      dsimp only
      rw [q]
      rfl
    · have q : c_sortedT [ls (tp PyData.int) (k :: l)] = none := by
        unfold c_sortedT
        dsimp only
        rw [u]
        dsimp only
        rw [if_neg ok]
      have all : ((k :: l).all fun k => !k.isEmpty) = false := by
        unfold okT at ok
        rw [Bool.or_eq_true, not_or] at ok
        exact Bool.eq_false_iff.mpr ok.2
      have q2 : c_sortedM [ls (tp PyData.int) (k :: l)] = some (.ac ((upT (k :: l)).map tI)) := by
        unfold c_sortedM
        dsimp only
        rw [u]
        dsimp only
        rw [if_pos all]
      unfold c_sortedB c_sortedA orC
      rw [n1]
      dsimp only
      rw [q]
      dsimp only
      rw [q2]
      rfl
end DL
namespace DL
open L2 PySem PySem.Spec PySem.W PyProof.Rows
abbrev p1 {α : Type} (f : α → PyData) (x : α) : PyData := .tuple [f x]
instance {α : Type} {f : α → PyData} : Nn (p1 f) := ⟨fun _ => ⟨rfl, rfl⟩⟩
instance {α : Type} [DecidableEq α] {f : α → PyData} [E : EqE f] : EqE (p1 f) := ⟨E.d + 1, fun a => by simp [PyData.canLay0, PyData.canLayAll0, E.can], fun a => by
    rw [PyData.depth, PyData.depthAll, PyData.depthAll]
    have := E.dep a
    omega, fun a b => by
    rw [PyData.eqv, PyData.eqvAll, PyData.eqvAll, E.eqv]
    exact Bool.and_true _⟩
end DL
namespace DL
open L2 PySem PySem.Spec PySem.W PyProof.Rows
def valD (kvs : List (Key × PyData)) (k : Key) : Option PyData := (kvs.find? fun kv => decide (kv.1 = k)).map (·.2)
section
variable {K : PySem.W.Frag} {G : Hp} {v : V} {d : PyData} {k : Key}
theorem Dkv.same {G' : Hp} {ws : List (Key × V)} {kvs : List (Key × PyData)} (q : Dkv K G ws kvs) (s : Same G G') : Dkv K G' ws kvs := ⟨q.1, dpAll_same s q.2⟩
end
end DL
namespace DL
open L2 PySem PySem.Spec PySem.W PyProof.Rows
end DL
namespace DL
open L2 PySem PySem.Spec PySem.W PyProof.Rows
section
variable {α β γ δ ε ζ : Type}
abbrev q2 (f : α → PyData) (g : β → PyData) (x : α × β) : List PyData := [f x.1, g x.2]
abbrev q3 (f : α → PyData) (g : β → PyData) (h : γ → PyData) (x : α × β × γ) : List PyData := [f x.1, g x.2.1, h x.2.2]
abbrev q4 (f : α → PyData) (g : β → PyData) (h : γ → PyData) (k : δ → PyData) (x : α × β × γ × δ) : List PyData := [f x.1, g x.2.1, h x.2.2.1, k x.2.2.2]
abbrev q5 (f : α → PyData) (g : β → PyData) (h : γ → PyData) (k : δ → PyData) (l : ε → PyData) (x : α × β × γ × δ × ε) : List PyData := [f x.1, g x.2.1, h x.2.2.1, k x.2.2.2.1, l x.2.2.2.2]
end
end DL
namespace DL
open L2 PySem PySem.Spec PySem.W PyProof.Rows
section
variable {l : Addr} {items : Array Value} {n : Nat} {dd : Option Addr} {sl : Array (Option Value)} {u : Tok} {x : Int}
theorem tm_self (c0 : (decide (x < -(2 ^ 63)) || decide (x ≥ 2 ^ 63)) = false) (c1 : (items.isEmpty || x == 1) = true) : Meets (Builtin.«tuple.__mul__» ⟨[.ref l, .int x u], []⟩) (fun _ R s => s.heap.get? l = some { cls := .type "tuple", dict := dd, data := .seq items n, slots := sl } ∧ R (.ok (.ret (.ref l))) s) :=
  .of_wp fun prog w A R s h => by
    obtain ⟨hp, g, d, tk, os⟩ := s
    obtain ⟨hl, k⟩ := h
    have ix := AutoSeq1.idx_int
    wp_walk using wpAny_loadPart' hl
    repeat (first
      | (refine wpAny_ite_false (decide_eq_false (by rw [c0]; exact Bool.false_ne_true)) ?_; wp_walk using wpAny_loadPart' hl)
      | (refine wpAny_ite_true (by rw [c1]; rfl) ?_; wp_walk using wpAny_loadPart' hl)
      | (refine wpAny_ite_true (by rw [c1]) ?_; wp_walk using wpAny_loadPart' hl))
    exact ⟨_, rfl, k⟩
end
def rRepB (K : PySem.W.Frag) : R2 := fun x y H Q => ∃ l k xs, x = .ref l ∧ y = .int k ∧ SqT K H l xs ∧ -1000000 ≤ k ∧ k ≤ 1000 ∧ xs.length ≤ 1000 ∧
  ((xs = [] ∨ k = 1) → Q (.ref l) H) ∧ (xs ≠ [] → k ≤ 0 → ∀ p, H p = none → Q (.ref p) (upd H p (.tup []))) ∧ (xs ≠ [] → 2 ≤ k → ∀ p, H p = none → Q (.ref p) (upd H p (.tup (List.replicate k.toNat xs).flatten)))
section
variable {X : Cx}
theorem op_repB : OpR X (binaryOp .Mult) (rRepB X.K) := by
  intro pins s σ H x y v u Q I rx ry h
  obtain ⟨l, k, xs, rfl, rfl, hT, hk, h2, hz, q1, q2, q3⟩ := h
  by_cases big : xs ≠ [] ∧ 2 ≤ k
  · exact op_repT pins s σ H _ _ v u Q I rx ry ⟨l, k, xs, rfl, rfl, hT, big.1, big.2, h2, hz, q3 big.1 big.2⟩
  cases rx
  obtain ⟨t, rfl⟩ := ry
  obtain ⟨its, r, ⟨⟨cls, dd, data, sl⟩, ho, hc, n, hd⟩, hs⟩ := I.tuple hT
  simp only at hc hd
  subst hc hd
  have hle : its.length = xs.length := r.length.symm
  have c0 : (decide (k < -(2 ^ 63)) || decide (k ≥ 2 ^ 63)) = false := by
    rw [decide_eq_false (by omega), decide_eq_false (by omega)] <;> rfl
  have road : ∀ {Rz : Result → Shared → Prop}, wpAny (model X.prog X.w) X.A (call (.builtin "tuple.__mul__") [.ref l, .int k t]) (EP X pins σ Q) X.xe s → wpAny (model X.prog X.w) X.A (binaryOp .Mult (.ref l) (.int k t)) (EP X pins σ Q) X.xe s := fun z =>
    wpAny_binaryOp_repeat_ref (T := "tuple") (U := "int") (by decide) ⟨_, ho, rfl⟩ (fun s' => typeIs_int s' k t) noFill_tuple_mul F.fills_int_mul F.slot_int_rmul repeat_tuple F.slot_int_index.lookup
      (call_meets F.slot_int_rmul (typeIs_int s k t) F.entry_int_rmul (F.args_int_rmul_2 _ _) (int_rmul_tuple k t l its.toArray n dd sl) ⟨ho, rfl, ⟨_, ho, rfl⟩, z⟩)
  by_cases e1 : xs = [] ∨ k = 1
  · have c1 : (its.toArray.isEmpty || k == 1) = true := by
      rcases e1 with e1 | e1
      · have : its = [] := List.eq_nil_of_length_eq_zero (by rw [hle, e1]; rfl)
        rw [this]
        rfl
      · rw [e1]
        simp
    refine road (Rz := fun _ _ => True) (call_meets F.slot_tuple_mul ⟨_, ho, rfl⟩ F.entry_tuple_mul (F.args_tuple_mul_2 _ _) (tm_self (l := l) (items := its.toArray) (n := n) (dd := dd) (sl := sl) (u := t) (x := k) c0 c1) ⟨ho, ?_⟩)
    exact ⟨.ref l, H, I, rfl, q1 e1⟩
  · have e2 : xs ≠ [] := fun z => e1 (.inl z)
    have e3 : k ≠ 1 := fun z => e1 (.inr z)
    have e4 : k ≤ 0 := by
      by_cases z : k ≤ 0
      · exact z
      · exact absurd ⟨e2, by omega⟩ big
    have hi : its.toArray.isEmpty = false := by
      cases its with
      | nil => exact absurd (List.eq_nil_of_length_eq_zero (by rw [← hle]; rfl)) e2
      | cons a b => rfl
    have c1 : (its.toArray.isEmpty || k == 1) = false := by
      rw [hi, Bool.false_or]
      exact beq_eq_false_iff_ne.mpr e3
    have c2 : (decide (k ≤ 0) || its.toArray.isEmpty) = true := by
      rw [decide_eq_true e4]
      rfl
    refine road (Rz := fun _ _ => True) (call_meets F.slot_tuple_mul ⟨_, ho, rfl⟩ F.entry_tuple_mul (F.args_tuple_mul_2 _ _) (tm_none (l := l) (items := its.toArray) (n := n) (dd := dd) (sl := sl) (u := t) (x := k) c0 c1 c2) ⟨ho, ?_⟩)
    refine ⟨.ref s.heap.objs.size, _, I.laid (t' := s.toks) (o := .tup []) (fun b ob q => Heap.get?_push_of_some _ q) (Nat.le_refl _) ?_, rfl, q2 e2 e4 _ (I.hok.fresh (Nat.le_refl _))⟩
    exact ⟨Nat.zero_le _, _, .nil, IsTup.new _ _⟩
def q_repT : PyData → PyData → Option Rs
  | .tuple ds, .int k => if -1000000 ≤ k ∧ k ≤ 1000 ∧ ds.length ≤ 1000 then some (.im (.tuple (List.replicate k.toNat ds).flatten)) else none
  | _, _ => none
def p_repT : PyData → PyData → Option Rs := q_repT
theorem vb_repT {K : PySem.W.Frag} : VB K (rRepB K) p_repT := by
  intro m E G0 G e σ H x y dx dy rr Q R lx ly q P
  unfold p_repT q_repT at q
  split at q
  · rename_i ds k
    by_cases z : -1000000 ≤ k ∧ k ≤ 1000 ∧ ds.length ≤ 1000
    · rw [if_pos z] at q
      cases q
      have dx : Dp K G x (.tuple ds) := by
        rcases lx with h | ⟨_, _, _, _, h, _⟩
        · exact h
        · cases h
      obtain ⟨p1, w1, e1, s1, k1⟩ := lx.tup R.gh
      have e2 := ly.int
      subst e1 e2
      have hl := dpAll_len k1
      refine ⟨p1, k, w1, rfl, rfl, s1, z.1, z.2.1, by rw [hl]; exact z.2.2, fun h => ?_, fun h1 h2 p hp => ?_, fun _ _ p hp => ?_⟩
      · have e : (List.replicate k.toNat ds).flatten = ds := by
          rcases h with h | h
          · subst h
            cases k1
            rw [List.flatten_replicate_nil]
          · subst h
            simp
        rw [e] at P
        exact P _ _ _ R Stp.refl dx True.intro
      · have e : (List.replicate k.toNat ds).flatten = [] := by
          have : k.toNat = 0 := by omega
          rw [this]
          rfl
        rw [e] at P
        obtain ⟨R', S', D'⟩ := R.newT (ws := []) (ds := []) hp .nil
        exact P _ _ _ R' S' D' True.intro
      · obtain ⟨R', S', D'⟩ := R.newT hp (dpAll_rep k1 k.toNat)
        exact P _ _ _ R' S' D' True.intro
    · rw [if_neg z] at q
      cases q
  · cases q
end
def repTO {α : Type} (l : List α) (k : Int) : Option (List α) := if -1000000 ≤ k ∧ k ≤ 1000 ∧ l.length ≤ 1000 then some (List.replicate k.toNat l).flatten else none
theorem o_repT {α : Type} {f : α → PyData} {l m : List α} {k : Int} (h : repTO l k = some m) : p_repT (tp f l) (.int k) = some (.im (tp f m)) := by
  unfold repTO at h
  by_cases z : -1000000 ≤ k ∧ k ≤ 1000 ∧ l.length ≤ 1000
  · rw [if_pos z] at h
    cases h
    show (if -1000000 ≤ k ∧ k ≤ 1000 ∧ (l.map f).length ≤ 1000 then some (Rs.im (.tuple (List.replicate k.toNat (l.map f)).flatten)) else none) = _
    rw [List.length_map, if_pos z]
    show _ = some (Rs.im (.tuple (List.map f _)))
    rw [List.map_flatten, List.map_replicate]
  · rw [if_neg z] at h
    cases h
end DL
namespace DL
open L2 PySem PySem.Spec PySem.W PyProof.Rows
end DL
namespace DL
open L2 PySem PySem.Spec PySem.W PyProof.Rows
theorem _root_.L2H.RoomH.units {k : Nat} {A : Around} (r : L2H.RoomH k A) : A.units + 64 < cLine := by
  have := r.un
  omega
theorem hot_suite {X : Cx} {a dd C : Addr} {oe : Obj} {pn : List (Addr × Obj)} (hz : L2N.Zn (.ref C) (some dd) oe) (hf : ∃ vs, oe.data = .fields vs) : L2H.HotC (X.suite a ((a, oe) :: pn)) := by
  obtain ⟨vs, hv⟩ := hf
  exact ⟨(a, oe), ⟨rfl, vs, hv, hz.2.2 vs hv⟩, List.mem_cons_self ..⟩
theorem room_suite {X : Cx} {j : Nat} {a : Addr} {pn : List (Addr × Obj)} (hr : Room j X.A) : L2H.RoomH j (X.suite a pn).A := ⟨hr.dp, hr.un⟩
inductive KfH (P : Program) (w : World) (K : PySem.W.Frag) (mg : Str → Option Value) (base : Heap) (k : Nat) (x : Str) (sp : Sp) : Prop where
  | kept (at_ : Addr) (fd : FuncData) (names : List Str) (fn : L2H.FnH P w K mg base CX0 k at_ fd names sp) (here : mg x = some (.ref at_)) (stays : PySem.W.keepIn K (.ref at_) = true) (binds : Binds K fd names [])
section
variable {X : Cx} {k j n : Nat} {x : Str} {p pos : Pos} {a : Expr} {es : List Expr} {fa : Fa}
theorem ed_callH {φ : List PyData → Option Rs} (F : KfH X.prog X.w X.K X.mg X.base k x (spD X.K n φ)) (hr : L2H.RoomH j X.A) (hot : L2H.HotC X) (hk : k ≤ j) (hn : ∀ ds, (φ ds).isSome = true → ds.length = n) (h : AD X (a :: es) fa) (hg : Gl X x := by rfl)
    (hdb : (x == ("__debug__" : Str)) = false := by decide) (he : starEach (a :: es) X.env = (false, eval a X.env) :: starEach es X.env := by rfl) (hpl : (backTo pos (starEach es X.env)).any (·.1) = false := by rfl) :
    ED X (.Call (.Name x p) (a :: es) [] pos) (x_call φ [] fa) := by
  obtain ⟨f, fd, ps, F, hm, kp, hb⟩ := F
  obtain ⟨t, pa, kk⟩ := h
  refine ⟨_, L2H.pe_callH F (hr.mono hk) hot hg hm kp hb (E := fun _ => E0) (fun _ _ _ _ _ _ _ z => z.elim) pa hdb he hpl, ?_⟩
  intro m E G0 G e σ H r e' Q R q P
  have z := call_ok (dvs := []) (dds := []) (fun G => .nil) hn kk m E G0 G e σ H r e' Q R q P
  unfold tCall at z
  simp only [List.append_nil] at z
  exact z
end
section
variable {P : Program} {w : World} {K : PySem.W.Frag} {mg : Str → Option Value} {base : Heap} {x qual : Str} {params : Arguments} {body : List Stmt} {scope : Scope} {dvs : List V} {kws : List (Str × V)} {f : Addr} {fd : FuncData} {N ps : List Str} {k n nl : Nat} {g : Fs}
/-- what the body gives, out of what the def promises -/
theorem fn_read {X : Cx} {t : TS} {vs : List V} {H : Hp} {Q : VK} {E : XK} (hK : X.K = K) (hl : n + nl = N.length) (kt : ∀ (m : Option Addr) (E : Ef) (G0 G : Hp) (e : Ev) (σ : St) (H : Hp) (fl : Fl) (D : Ends), Rz X.K m E G0 G e σ H → g e = some fl → PoS X.K m E G0 G D fl → t D σ H)
    (h : spD K n (runF n nl g) vs H Q E) : t { nx := fun _ H' => Q .non H', rt := Q } (L2.start N vs) H := by
  subst hK
  obtain ⟨G, ds, r, s1, hd, hv, hr2, hQ⟩ := h
  have Rz0 : Rz X.K none (Ef.of H) G G (env0 ds nl) (L2.start N vs) H := rz_start s1 hd (by omega)
  unfold runF at hr2
  rw [if_pos (by rw [← dpAll_len hd]; exact hv)] at hr2
  split at hr2
  · rename_i r' e' h1
    refine kt none (Ef.of H) G G _ _ H _ _ Rz0 h1 fun v G' σ' H' s2 R' V' => ?_
    refine hQ v G' H' s2 R'.r.gh (fun a o z => R'.r.eh a o z (by simp)) R'.r.nw ?_
    unfold finR at hr2
    cases r' with
    | im d =>
      cases hr2
      exact V'
    | ac d =>
      cases hr2
      obtain ⟨p, ws, a1, a2, a3, a4, a5, _⟩ := V'
      exact ⟨p, ws, a1, a2, a3, a4, a5⟩
    | br i =>
      dsimp only at hr2
      split at hr2
      · rename_i d h2
        cases hr2
        obtain ⟨d', b1, b2⟩ := V'
        obtain ⟨p, ws, a1, a2, a3, a4, a5⟩ := R'.r.ac i d h2
        rw [a1] at b2
        cases b2
        have a5 : H p = none := by
          rcases a5 with a5 | a5
          · exact a5
          · cases a5.1
        exact ⟨p, ws, rfl, a5, a2, a3, a4⟩
      · cases hr2
  · rename_i e' h1
    cases hr2
    exact kt none (Ef.of H) G G _ _ H _ _ Rz0 h1 fun G' σ' H' s2 R' => hQ .non G' H' s2 R'.r.gh (fun a o z => R'.r.eh a o z (by simp)) R'.r.nw .non
  · cases hr2
theorem fnDH (F : FunD K x qual params body scope dvs kws f fd) (S : FnScope N ps scope) (hp : ps.length = n) (hl : n + nl = N.length)
    (hb : ∀ (cdv : Value) (A : Around) (outer : List Env) (s : Shared) (H : Hp) (E : XK) (p : Addr × Obj), L2H.RoomH k (A.deeper (envOfC qual scope s.heap.objs.size f cdv)) → L2H.HotC (L2H.cxH CX0 P w K mg base N qual scope f cdv A outer s H E p).nox → SsD (L2H.cxH CX0 P w K mg base N qual scope f cdv A outer s H E p).nox body g) :
    L2H.FnH P w K mg base CX0 (k + 1) f fd ps (spD K n (runF n nl g)) := by
  obtain ⟨oc, od, dV, kV, doc, pm, an, cdv, ct, osl, rfl, lk, hcd, _, _⟩ := F.ex
  refine L2H.fn_ofH lk hcd S (fun vs H Q E h => ?_) fun A outer s H vs Q E p hot hr h => ?_
  · obtain ⟨_, _, _, _, _, h, _⟩ := h
    rw [h, hp]
  · obtain ⟨t, pt, kt⟩ := hb cdv A outer s H E p hr ⟨p, hot, List.mem_singleton.mpr rfl⟩
    exact ⟨t, pt.nox, fn_read (K := K) rfl hl kt h⟩
theorem kfHN {sp : Sp} (F : FunD K x qual params body scope [] kws f fd) (ok : L2H.FnH P w K mg base CX0 k f fd ps sp) (gm : mg x = some (.ref f))
    (h : ∀ (kV doc pm : Value) (an : Option Addr) (cdv ct : Value) (us : List Value), us.length = ps.length → bindArgs (PySem.W.fnOf x qual params body scope .none kV doc pm an cdv ct) ⟨us, []⟩ = pure (ps.zip us)) : KfH P w K mg base k x sp := ⟨_, _, _, ok, gm, F.kp, F.bindsN h⟩
end
end DL
namespace DL
open L2 PySem PySem.Spec PySem.W PyProof.Rows
def x_m1 (φ : PyData → PyData → Option Int) (fo fa : Fe) : Fe := fun e => match fo e with
  | some (r1, e1) => (match imR (frzR r1) with
    | some d1 => (match fa e1 with
      | some (r2, e2) => (match imR (frzR r2) with
        | some d2 => (φ d1 d2).map fun i => (.im (.int i), e2)
        | none => none)
      | none => none)
    | none => none)
  | none => none
theorem imR_ok {r : Rs} {d : PyData} (h : imR r = some d) : r = .im d := by
  cases r with
  | im x => cases h; rfl
  | ac x => cases h
  | br x => cases h
section
variable {X : Cx} {o a : Expr} {fo fa : Fe} {name : Str} {apos cpos : Pos} {T id : String} {r : V → List V → Hp → VK → Prop} {φ : PyData → PyData → Option Int}
theorem ed_m1 (pa : PlainAttrs T) (slot : Slot T name id) (hty : typeOf (.builtin id) = pure (.type "method_descriptor")) (hm : MtR X id r) (hy : ∀ {G H : Hp} {v : V} {d1 d2 : PyData} {i : Int}, φ d1 d2 = some i → Same G H → Dp X.K G v d1 → tyV X.K T v H)
    (hr : ∀ {G H : Hp} {v w : V} {d1 d2 : PyData} {i : Int} {Q : VK}, φ d1 d2 = some i → Same G H → Dp X.K G v d1 → Dp X.K G w d2 → Q (.int i) H → r v [w] H Q) (ho : ED X o fo) (ha : ED X a fa)
    (hbase : attributeBase o name X.env (eval o X.env) = eval o X.env := by rfl)
    (hfew : ((backTo cpos (starEach [a] X.env)).all (fun x => !x.1) && (backToKw cpos (keywordEach [] X.env)).all (fun x => x.1.isSome) && decide (([a] : List Expr).length + ([] : List Keyword).length + (if ([] : List Keyword).isEmpty then 0 else 1) < 30)) = true := by rfl)
    (hline : (apos.endLine == cpos.line) = true := by rfl) (hs : starEach [a] X.env = (false, eval a X.env) :: starEach [] X.env := by rfl) (hplain : (backTo cpos (starEach [] X.env)).any (·.1) = false := by rfl) :
    ED X (.Call (.Attribute o name apos) [a] [] cpos) (x_m1 φ fo fa) := by
  obtain ⟨to, po, ko⟩ := ho
  obtain ⟨ta, pe, ka⟩ := ha
  refine ⟨_, pe_bm pa slot hty hm po (pa_cons pe pa_nil hs) hbase hfew hline hs hplain, fun m E G0 G e σ H rr e' Q R q P => ?_⟩
  unfold x_m1 at q
  split at q
  · rename_i r1 e1 h1
    split at q
    · rename_i d1 h2
      split at q
      · rename_i r2 e2 h3
        split at q
        · rename_i d2 h4
          cases h5 : φ d1 d2 with
          | none => rw [h5] at q; cases q
          | some i =>
            rw [h5] at q
            obtain ⟨rfl, rfl⟩ := Prod.mk.inj (Option.some.inj (show some (Rs.im (.int i), e2) = some (rr, e') from q))
            refine ko m E G0 G e σ H r1 e1 _ R h1 fun v G1 H1 R1 S1 V1 N1 => ?_
            obtain ⟨G2, R2, S2, s2, V2⟩ := R1.freeze S1 V1 N1
            rw [imR_ok h2] at V2
            refine ⟨hy h5 R2.gh V2, ?_⟩
            refine ka m E G0 G2 e1 σ H1 r2 e2 _ R2 h3 fun w G3 H3 R3 S3 V3 N3 => ?_
            obtain ⟨G4, R4, S4, s4, V4⟩ := R3.freeze S3 V3 N3
            rw [imR_ok h4] at V4
            exact hr h5 R4.gh (dp_same S4.gg V2) V4 (P (.int i) G4 H3 R4 (S2.trans S4) (.int i) True.intro)
        · cases q
      · cases q
    · cases q
  · cases q
def firstAt (d : PyData) : List PyData → Option Nat
  | [] => none
  | z :: ds => if PyData.eqv z d = true then some 0 else (firstAt d ds).map (· + 1)
theorem firstAt_ok {d : PyData} : ∀ {ds : List PyData} {j : Nat}, firstAt d ds = some j → (∃ z, ds[j]? = some z ∧ PyData.eqv z d = true) ∧ ∀ (m : Nat) (z' : PyData), m < j → ds[m]? = some z' → PyData.eqv z' d = false
  | [], _, h => by cases h
  | z :: ds, j, h => by
    unfold firstAt at h
    by_cases c : PyData.eqv z d = true
    · rw [if_pos c] at h
      cases h
      exact ⟨⟨z, rfl, c⟩, fun m _ hm => absurd hm (Nat.not_lt_zero _)⟩
    · rw [if_neg c] at h
      cases h2 : firstAt d ds with
      | none => rw [h2] at h; cases h
      | some k =>
        rw [h2] at h
        cases h
        obtain ⟨⟨z2, z3, z4⟩, z5⟩ := firstAt_ok h2
        refine ⟨⟨z2, by simpa using z3, z4⟩, fun m z' hm hz => ?_⟩
        cases m with
        | zero =>
          have : z = z' := by simpa using hz
          subst this
          exact Bool.eq_false_iff.mpr c
        | succ m => exact z5 m z' (Nat.lt_of_succ_lt_succ hm) (by simpa using hz)
def q_index : PyData → PyData → Option Int
  | .list ds, d => if (SeqAt.shaped (.list ds) && SeqAt.shaped d) = true then (firstAt d ds).map fun (j : Nat) => (j : Int) else none
  | _, _ => none
theorem ed_index (hu : X.A.units + 65 < cLine) (ho : ED X o fo) (ha : ED X a fa)
    (hbase : attributeBase o "index" X.env (eval o X.env) = eval o X.env := by rfl)
    (hfew : ((backTo cpos (starEach [a] X.env)).all (fun x => !x.1) && (backToKw cpos (keywordEach [] X.env)).all (fun x => x.1.isSome) && decide (([a] : List Expr).length + ([] : List Keyword).length + (if ([] : List Keyword).isEmpty then 0 else 1) < 30)) = true := by rfl)
    (hline : (apos.endLine == cpos.line) = true := by rfl) (hs : starEach [a] X.env = (false, eval a X.env) :: starEach [] X.env := by rfl) (hplain : (backTo cpos (starEach [] X.env)).any (·.1) = false := by rfl) :
    ED X (.Call (.Attribute o "index" apos) [a] [] cpos) (x_m1 q_index fo fa) := by
  have look : ∀ {d1 d2 : PyData} {i : Int}, q_index d1 d2 = some i → ∃ ds j, d1 = .list ds ∧ SeqAt.shaped (.list ds) = true ∧ SeqAt.shaped d2 = true ∧ firstAt d2 ds = some j ∧ i = (j : Int) := fun {d1 d2 i} h => by
    unfold q_index at h
    split at h
    · rename_i ds
      by_cases c : (SeqAt.shaped (.list ds) && SeqAt.shaped d2) = true
      · rw [if_pos c] at h
        rw [Bool.and_eq_true] at c
        cases h2 : firstAt d2 ds with
        | none => rw [h2] at h; cases h
        | some j =>
          rw [h2] at h
          cases h
          exact ⟨ds, j, rfl, c.1, c.2, h2, rfl⟩
      · rw [if_neg c] at h
        cases h
    · cases h
  refine ed_m1 PySem.F.plainAttrs_list PySem.F.slot_list_index PySem.F.type_list_index (mt_indexD hu) (fun {G H v d1 d2 i} h s q => ?_) (fun {G H v w d1 d2 i Q} h s q q2 k => ?_) ho ha hbase hfew hline hs hplain
  · obtain ⟨ds, j, rfl, _⟩ := look h
    cases q with
    | lst h1 h2 => exact .inl ⟨rfl, _, s.seq h1⟩
  · obtain ⟨ds, j, rfl, s1, s2, f, rfl⟩ := look h
    obtain ⟨⟨z, z1, z2⟩, z3⟩ := firstAt_ok f
    cases q with
    | lst h1 h2 => exact ⟨_, w, d2, ds, j, z, rfl, rfl, .lst (s.seq h1) (dpAll_same s h2), dp_same s q2, s1, s2, z1, z2, z3, k⟩
end
theorem u65 {k : Nat} {A : Around} (r : Room k A) : A.units + 65 < cLine := by
  have := r.un
  omega
section
variable {α : Type} [DecidableEq α] {f : α → PyData} [E : EqE f] [E2 : EqE (ls f)] {l : List α} {a : α} {i : Int} {fo fa : Fe} {e e1 e2 : Ev} {r1 r2 : Rs}
def firstL (a : α) : List α → Option Nat
  | [] => none
  | b :: l => if b = a then some 0 else (firstL a l).map (· + 1)
def idxO (l : List α) (a : α) : Option Int := (firstL a l).map fun (j : Nat) => (j : Int)
theorem firstL_t : ∀ l : List α, firstAt (f a) (l.map f) = firstL a l
  | [] => rfl
  | b :: l => by
    show (if PyData.eqv (f b) (f a) = true then some 0 else (firstAt (f a) (l.map f)).map (· + 1)) = if b = a then some 0 else (firstL a l).map (· + 1)
    rw [E.eqv, firstL_t l]
    by_cases h : b = a
    · rw [decide_eq_true h, if_pos rfl, if_pos h]
    · rw [decide_eq_false h, if_neg Bool.false_ne_true, if_neg h]
theorem indexX (hd : E.d ≤ 64) (hd2 : E2.d ≤ 64) (h : idxO l a = some i) (ho : fo e = some (r1, e1)) (l1 : imR (frzR r1) = some (ls f l)) (ha : fa e1 = some (r2, e2)) (l2 : imR (frzR r2) = some (f a)) : x_m1 q_index fo fa e = some (.im (.int i), e2) := by
  unfold x_m1
  rw [ho]
  dsimp only
  rw [l1]
  dsimp only
  rw [ha]
  dsimp only
  rw [l2]
  dsimp only
  have q : q_index (ls f l) (f a) = some i := by
    show (if (SeqAt.shaped (ls f l) && SeqAt.shaped (f a)) = true then (firstAt (f a) (l.map f)).map fun (j : Nat) => (j : Int) else none) = some i
    rw [shp1 hd2, shp1 hd, firstL_t]
    exact h
  rw [q]
  rfl
end
end DL
namespace DL
open PySem PySem.Spec PySem.W PyProof.Rows L2
section
variable {prog : Program} {w : World} {A : Around} {E : Value → Shared → Prop} {z : Shared}
/-- where the new list of what a tuple holds stands -/
def gotH (g : Heap) (vs : List Value) : Heap := (g.push (seqObj "list" #[] 0)).update g.objs.size (Obj.mapSeq (· ++ vs.toArray))
theorem got_size (g : Heap) (vs : List Value) : (gotH g vs).objs.size = g.objs.size + 1 := by unfold gotH; rw [Heap.size_update, size_push']
theorem got_at (g : Heap) (vs : List Value) : ∃ n, (gotH g vs).get? g.objs.size = some (seqObj "list" vs.toArray n) :=
  ⟨_, (get?_update_seq (Heap.get?_push_size _ rfl) _).trans (by rw [show (#[] : Array Value) ++ vs.toArray = vs.toArray by simp])⟩
/-- xs += t, of a new list -/
theorem tup_ext {t r : Addr} {ob : Obj} {vs : List Value} {k n : Nat} {g : Heap} {Q : PySem.Fin → Shared → Prop} (h1 : g.get? t = some ob) (h2 : ob.cls = .type "tuple") (h3 : ob.data = .seq vs.toArray k)
    (hr : g.get? r = some (seqObj "list" #[] n)) (hn : vs.length ≤ sizeLine) (q : Q (.done (.ret (.ref r))) { z with heap := g.update r (Obj.mapSeq (· ++ vs.toArray)) }) :
    wpAny (model prog w) A (Builtin.List.listExtendWith (.ref r) (.ref t) (.ref r)) Q E { z with heap := g } := by
  unfold Builtin.List.listExtendWith
  refine wpAny_bind (wpAny_typeOf (T := "tuple") ⟨ob, h1, h2⟩ ?_)
  rw [if_pos (by simp)]
  refine wpAny_bind (listItems_at h1 h3 <| wpAny_bind <| listItems_at hr rfl ?_)
  rw [if_neg (by simp)]
  exact wpAny_bind (listUpdate_at hr rfl (wpAny_pure q) (Nat.zero_le _) (by show (#[] ++ vs.toArray).size ≤ sizeLine + 1; simp only [Array.size_append, List.size_toArray, List.length_nil]; omega))
theorem tup_got {t : Addr} {vs : List Value} {Q : List Value → Shared → Prop} (ht : IsTup z.heap t vs.toArray) (hn : vs.length ≤ sizeLine) (q : Q vs { z with heap := gotH z.heap vs }) :
    wpAny (model prog w) A (collect (.ref t)) Q E z := by
  obtain ⟨ob, h1, h2, k, h3⟩ := ht
  obtain ⟨n, hg⟩ := got_at z.heap vs
  unfold collect
  refine wpAny_bind (wpAny_runValue (codeAny_builtin entry_proto_collect' (?_ : wpAny _ _ (do again (.builtin "list.__iadd__" ⟨[← newList [], .ref t], []⟩)) _ _ z)))
  refine wpAny_bind <| wpAny_newList <| wpAny_pure ⟨Code.quiet_builtin _ (by decide +kernel), codeAny_builtin entry_list_iadd' ?_⟩
  refine tup_ext (z := z) (Heap.get?_push_of_some _ h1) h2 h3 (Heap.get?_push_size _ rfl) hn ?_
  show wpAny (model prog w) A (load z.heap.objs.size >>= fun o => match o.data with
      | .seq xs _ => pure xs.toList
      | _ => unsupported "internal:collect") Q E _
  exact wpAny_bind (wpAny_load hg (wpAny_pure q))
/-- sorted of a tuple, by keywords that say reverse=b -/
theorem tup_srt {t : Addr} {vs : List Value} {b : Bool} {lt : Value → Value → Bool} {Q : Value → Shared → Prop} (O : SrtO.Swo lt) (ht : IsTup z.heap t vs.toArray) (hn : vs.length ≤ sizeLine)
    (hS : 2 ≤ vs.length → ∀ (g : Heap) (a : Addr), SrtO.SortableO prog w A.in1.in1 { z with heap := g } a vs lt)
    (q : ∀ out : List Value, SrtO.Srtd lt out → SrtO.Stb lt out (if b = true then vs.reverse else vs) → Q (.ref (z.heap.objs.size + 1)) { z with heap := sortedAll z.heap vs (if b = true then out.toArray.reverse else out.toArray) }) :
    wpAny (model prog w) A (call (.builtin "sorted") [.ref t] [(Str.ofString "reverse", .bool b)]) Q E z := by
  obtain ⟨n, hg⟩ := got_at z.heap vs
  have hnew : ((gotH z.heap vs).push (seqObj "list" vs.toArray 0)).get? (z.heap.objs.size + 1) = some (seqObj "list" vs.toArray 0) := got_size z.heap vs ▸ Heap.get?_push_size _ rfl
  refine call_function_entry_kw kind_sorted plain_sorted entry_sorted (PyProof.Rows.args_sorted_rev _ _) ?_
  unfold Builtin.«sorted»
  refine wpAny_bind (wpAny_pure (wpAny_bind (tup_got ht hn <| wpAny_bind <| wpAny_newList ?_ hn)))
  show wpAny _ _ _ _ _ { z with heap := (gotH z.heap vs).push (seqObj "list" vs.toArray 0) }
  rw [got_size]
  refine wpAny_bind (wpAny_holding (wpAny_call_entry_kw slot_list_sort ⟨_, hnew, rfl⟩ entry_list_sort (SrtR.list_sort_ordR O hnew hn (fun h2 => hS h2 _ _) fun out h1 h2 => ?_) (PyProof.Rows.args_list_sort_rev _ _)))
  exact ⟨_, rfl, wpAny_pure ⟨_, rfl, q out h1 h2⟩⟩
end
theorem crk_or {X : L2.Cx} {f : Value} {ks : List Str} {r r' : List V → List V → Hp → VK → Prop} (h : CallRK X f ks r) (h' : CallRK X f ks r') : CallRK X f ks fun vs zs H Q => r vs zs H Q ∨ r' vs zs H Q :=
  fun pins s σ H xs zs us ws Q I a b c => c.elim (h pins s σ H xs zs us ws Q I a b) (h' pins s σ H xs zs us ws Q I a b)
def rSrtT (K : PySem.W.Frag) : List V → List V → Hp → VK → Prop := fun vs zs H Q => ∃ (a : Addr) (ns : List Int), vs = [V.ref a] ∧ zs = [V.bl true] ∧ SqT K H a (ns.map V.int) ∧
  ∀ p : Addr, H p = none → Q (.ref p) (upd H p (.lst ((downI ns).map V.int)))
theorem cr_srtT {X : L2.Cx} : CallRK X (.builtin "sorted") [Str.ofString "reverse"] (rSrtT X.K) := by
  intro pins z σ H vs zs us ws Q I r rz h
  obtain ⟨t, ns, rfl, rfl, hs, q⟩ := h
  obtain ⟨its, rv, tp, hz⟩ := I.tuple hs
  rw [Vals.ref1 r]
  obtain ⟨w1, rfl, e1⟩ := vals1 rz
  have e1 : w1 = Value.bool true := e1
  subst e1
  have hI := rv.ints
  have hn : its.length ≤ sizeLine := rv.length ▸ hz
  refine tup_srt SrtO.swo_int tp hn (fun h2 g a => SrtO.ints_sortable hI h2) fun out o1 o2 => ?_
  obtain ⟨ms, k1, k2, k3⟩ := SrtR.ints_outR hI o1 o2
  have k3 : ms.Pairwise (· ≥ ·) := k3
  rw [downI_uniq k2 k3] at k1
  obtain ⟨ep, at1⟩ := PyProof.Rows.sortedAll_at z.heap its (if true = true then out.toArray.reverse else out.toArray)
  have nf : H (z.heap.objs.size + 1) = none := I.hok.fresh (Nat.le_succ _)
  have hl : ((downI ns).map V.int).length ≤ sizeLine := by
    have e : (downI ns).length = ns.length := (sortB_perm _ ns).length_eq
    rw [List.length_map, e]
    rw [List.length_map] at hz
    exact hz
  refine ⟨.ref _, _, I.laid (t' := z.toks) (fun _ _ => PyProof.Rows.sortedAll_old) (Nat.le_succ _) (o := .lst ((downI ns).map V.int)) ⟨hl, _, ep, vals_of_ints k1, ?_⟩, rfl, q _ nf⟩
  rw [Array.toArray_toList]
  exact at1
/-- sorted(e, reverse=True), of a list or a tuple of ints -/
def c_srt : List PyData → Option Rs := orC (c_intsL fun ns => some (.ac ((downI ns).map PyData.int))) (c_intsT fun ns => some (.ac ((downI ns).map PyData.int)))
def x_srt (fa : Fa) : Fe := x_cb c_srt fa
theorem ed_srt {X : L2.Cx} {a : Expr} {fa : Fa} {pos p kp : Pos} {j : Nat} {cp : Pos} (h : AD X [a] fa) (hm : X.mg "sorted" = none) (hg : Gl X "sorted" := by rfl)
    (hk : L2.PK X [⟨some (Str.ofString "reverse"), .Constant (.bool true) j cp, kp⟩] (tCons (tC (.bl true)) tNil) := by exact pk_cons pe_bl pk_nil)
    (he : backTo pos (starEach [a] X.env) = (false, eval a X.env) :: backTo pos (starEach [] X.env) := by rfl) (hpl : (backTo pos (starEach [a] X.env)).any (·.1) = false := by rfl)
    (hall : (backToKw pos (keywordEach [⟨some (Str.ofString "reverse"), .Constant (.bool true) j cp, kp⟩] X.env)).all (·.1.isSome) = true := by rfl) (hnone : (backToKw pos (keywordEach [⟨some (Str.ofString "reverse"), .Constant (.bool true) j cp, kp⟩] X.env)).any (·.1.isNone) = false := by rfl)
    (hks : (backToKw pos (keywordEach [⟨some (Str.ofString "reverse"), .Constant (.bool true) j cp, kp⟩] X.env)).filterMap (·.1) = [Str.ofString "reverse"] := by rfl) :
    ED X (.Call (.Name "sorted" p) [a] [⟨some (Str.ofString "reverse"), .Constant (.bool true) j cp, kp⟩] pos) (x_srt fa) := by
  obtain ⟨t, pa, k⟩ := h
  refine ⟨_, pe_callBK (crk_or (cr_sortedRev (b := true)) cr_srtT) hg hm (by decide +kernel) pa hk (by decide) (by decide) he hpl hall hnone hks, fun m E G0 G e σ H r e' Q R q P => ?_⟩
  unfold x_srt x_cb at q
  cases h1 : argsD fa e with
  | none => simp only [h1] at q; cases q
  | some y =>
    obtain ⟨ds, e1⟩ := y
    simp only [h1] at q
    cases h2 : c_srt ds with
    | none => simp only [h2] at q; cases q
    | some r2 =>
      simp only [h2, Option.some.injEq, Prod.mk.injEq] at q
      obtain ⟨rfl, rfl⟩ := q
      obtain ⟨rs, q1, q2⟩ := argsD_ok h1
      refine k m E G0 G e σ H rs e1 _ R q1 fun vs G1 H1 R1 S1 V1 => ?_
      have fin : ∀ (ns : List Int) (p : Addr), r2 = .ac ((downI ns).map PyData.int) → H1 p = none → Q (.ref p) (upd H1 p (.lst ((downI ns).map V.int))) := fun ns p e2 hp => by
        subst e2
        obtain ⟨R', S', V', N'⟩ := R1.newL hp (dpAll_ints (K := X.K) (G := G1) (downI ns))
        exact P _ _ _ R' (S1.trans S') V' (nw_back S1 _ N')
      unfold c_srt orC at h2
      split at h2
      · rename_i r3 h3
        cases h2
        obtain ⟨ns, rfl, h4⟩ := intsL_ok h3
        cases h4
        obtain ⟨p, rfl, s1⟩ := lv_ints R1.gh (R1.lookAll V1 q2)
        refine .inl ⟨p, ns, rfl, rfl, s1, fun ms p2 z1 z2 hp => ?_⟩
        have z2 : ms.Pairwise (· ≥ ·) := z2
        rw [downI_uniq z1 z2]
        exact fin ns p2 rfl hp
      · obtain ⟨ns, rfl, h4⟩ := intsT_ok h2
        cases h4
        obtain ⟨p, rfl, s1⟩ := lv_intsT R1.gh (R1.lookAll V1 q2)
        exact .inr ⟨p, ns, rfl, rfl, s1, fun p2 hp => fin ns p2 rfl hp⟩
theorem srtLX {e : Ev} {ns : List Int} {fa : Fa} (h : argsD fa e = some ([ls PyData.int ns], e1)) : x_srt fa e = some (.ac ((downI ns).map PyData.int), e1) := by
  have c : c_srt [ls PyData.int ns] = some (.ac ((downI ns).map PyData.int)) := by
    show c_srt [PyData.list (ns.map PyData.int)] = _
    unfold c_srt orC
    rw [n_intsL]
  unfold x_srt x_cb
  rw [h]
  dsimp only
  rw [c]
theorem srtTX {e : Ev} {ns : List Int} {fa : Fa} (h : argsD fa e = some ([tp PyData.int ns], e1)) : x_srt fa e = some (.ac ((downI ns).map PyData.int), e1) := by
  have c : c_srt [tp PyData.int ns] = some (.ac ((downI ns).map PyData.int)) := by
    show c_srt [PyData.tuple (ns.map PyData.int)] = _
    unfold c_srt orC c_intsL c_intsT
    dsimp only
    rw [unI_ints]
  unfold x_srt x_cb
  rw [h]
  dsimp only
  rw [c]
def p_mulT : PyData → PyData → Option Rs := orF p_mul p_repT
theorem vb_mulT {X : L2.Cx} : VB X.K (fun x y H Q => ((rI CMul fun i j => .int (i * j)) x y H Q ∨ (rI CMulW fun i j => .int (i * j)) x y H Q) ∨ rRepB X.K x y H Q) p_mulT := VB.or vb_mul vb_repT
theorem op_mulT {X : L2.Cx} : OpR X (binaryOp .Mult) (fun x y H Q => ((rI CMul fun i j => .int (i * j)) x y H Q ∨ (rI CMulW fun i j => .int (i * j)) x y H Q) ∨ rRepB X.K x y H Q) := OpR.or op_mul2 op_repB
theorem mT {x y : PyData} {r : Rs} (h : p_mul x y = some r) : p_mulT x y = some r := by
  unfold p_mulT orF
  rw [h]
theorem mTT {x : List PyData} {k : Int} {r : Rs} (h : p_repT (.tuple x) (.int k) = some r) : p_mulT (.tuple x) (.int k) = some r := by
  have e : p_mul (.tuple x) (.int k) = none := rfl
  unfold p_mulT orF
  rw [e]
  exact h
end DL
namespace K19
open PySem PySem.Spec PyProof.Rows L2 DL
def xcs : List Str := ["NotUsable"]
def xys : List Str := ["NotUsable"]
def xfs : List Str := ["at", "word"]
def xtab : XTab := [(("NotUsable", "NotUsable"), true)]
def xok : Str → Bool := fun k => xcs.contains k
noncomputable section
def g_is_integer : Fs :=
  (s_ret (x_and (x_isi .int (x_var 0)) (x_not (x_isi .bool (x_var 0)))))
def F_is_integer : List PyData → Option Rs := runF 1 0 g_is_integer
def g_falling : Fs :=
  (s_ret (x_cb c_tuple (a_cons (x_srt (a_cons (x_var 0) a_nil)) a_nil)))
def F_falling : List PyData → Option Rs := runF 1 0 g_falling
def g__greatest_member : Fs :=
  (s_seq (s_setF 2 (x_c (.int 2)))
  (s_seq (s_while (fun _ => 300) (t_of (x_bin q_le (x_cb c_comb (a_cons (x_bin p_sub (x_bin p_add (x_var 2) (x_var 0)) (x_c (.int 1))) (a_cons (x_var 0) a_nil))) (x_var 1)))
  (s_setF 2 (x_bin p_mulT (x_var 2) (x_c (.int 2)))))
  (s_seq (s_setF 3 (x_bin p_div (x_var 2) (x_c (.int 2))))
  (s_seq (s_while (fun _ => 300) (t_of (x_bin q_gt (x_bin p_sub (x_var 2) (x_var 3)) (x_c (.int 1))))
  (s_seq (s_setF 4 (x_bin p_div (x_bin p_add (x_var 3) (x_var 2)) (x_c (.int 2))))
  (s_seq (s_if (t_of (x_bin q_le (x_cb c_comb (a_cons (x_bin p_sub (x_bin p_add (x_var 4) (x_var 0)) (x_c (.int 1))) (a_cons (x_var 0) a_nil))) (x_var 1)))
  (s_setF 3 (x_var 4))
  (s_setF 2 (x_var 4)))
  s_nx)))
  (s_seq (s_ret (x_var 3))
  s_nx)))))
def F__greatest_member : List PyData → Option Rs := runF 2 3 g__greatest_member
def g__law_mixed : Fs :=
  (s_seq (s_setF 2 (x_bin p_mulT (x_bin p_add (x_bin p_mod (x_cb c_int (a_cons (x_var 0) a_nil)) (x_c (.int 998244353))) (x_c (.int 1237))) (x_bin p_add (x_bin p_mulT (x_var 1) (x_c (.int 6151))) (x_c (.int 30011)))))
  (s_seq (s_setF 2 (x_bin p_mulT (x_bin p_add (x_bin p_div (x_bin p_mod (x_cb c_int (a_cons (x_var 2) a_nil)) (x_c (.int 2147483629))) (x_c (.int 19))) (x_bin p_mulT (x_var 1) (x_c (.int 86453)))) (x_c (.int 40487))))
  (s_seq (s_ret (x_bin p_mod (x_bin p_div (x_bin p_mod (x_cb c_int (a_cons (x_var 2) a_nil)) (x_c (.int 1999999943))) (x_c (.int 23))) (x_c (.int 983))))
  s_nx)))
def F__law_mixed : List PyData → Option Rs := runF 2 1 g__law_mixed
def g__law_is : Fs :=
  (s_ret (x_and (x_isi .int (x_var 0)) (x_and (x_not (x_isi .bool (x_var 0))) (x_bin p_eq (x_var 0) (x_var 1)))))
def F__law_is : List PyData → Option Rs := runF 2 0 g__law_is
def g__law_great : Fs :=
  (s_seq (s_setF 2 (x_c (.int 0)))
  (s_seq (s_for (i_rng1 (x_bin p_add (x_c (.int 1)) (x_bin p_mod (x_ix (x_var 0) (x_var 1)) (x_c (.int 10))))) (g_name 3) [3]
  (s_setF 2 (x_bin p_add (x_bin p_mulT (x_var 2) (x_c (.int 983))) (x_ix (x_var 0) (x_bin p_add (x_bin p_add (x_var 1) (x_c (.int 1))) (x_var 3))))))
  (s_seq (s_ret (x_var 2))
  s_nx)))
def F__law_great : List PyData → Option Rs := runF 2 2 g__law_great
def g__law_product : Fs :=
  (s_seq (s_setF 2 (x_c (.int 1)))
  (s_seq (s_for (i_rng1 (x_var 1)) (g_name 3) [3]
  (s_setF 2 (x_bin p_div (x_bin p_mulT (x_var 2) (x_bin p_sub (x_var 0) (x_var 3))) (x_bin p_add (x_var 3) (x_c (.int 1))))))
  (s_seq (s_ret (x_bin p_mulT (x_var 2) (x_cb c_int (a_cons (x_bin q_ge (x_var 0) (x_var 1)) a_nil))))
  s_nx)))
def F__law_product : List PyData → Option Rs := runF 2 2 g__law_product
def g__law_cut : Fs :=
  (s_ret (x_cb c_tuple (a_cons (x_sl (x_srt (a_cons (x_var 1) a_nil)) o_no (o_at (x_var 0))) a_nil)))
def F__law_cut : List PyData → Option Rs := runF 2 0 g__law_cut
def g__law_after : Fs :=
  (s_seq (s_if (t_of (x_bin q_lt (x_cb c_len (a_cons (x_var 1) a_nil)) (x_var 0)))
  (s_ret (x_bin p_add (x_var 1) (x_tup (a_cons (x_c (.int 1)) a_nil))))
  s_nx)
  (s_seq (s_setF 2 (x_ix (x_var 1) (x_bin p_sub (x_cb c_len (a_cons (x_var 1) a_nil)) (x_c (.int 1)))))
  (s_seq (s_ret (x_bin p_add (x_cb c_tuple (a_cons (x_lc (i_seq (x_var 1)) (g_name 3) (t_of (x_bin q_gt (x_var 3) (x_var 2))) (x_var 3) [3]) a_nil)) (x_tup (a_cons (x_bin p_add (x_var 2) (x_c (.int 1))) a_nil))))
  s_nx)))
def F__law_after : List PyData → Option Rs := runF 2 2 g__law_after
def g__law_listed : Fs :=
  (s_seq (s_setF 2 (x_lst (a_cons (x_tup a_nil) a_nil)))
  (s_seq (s_setF 3 (x_lst (a_cons (x_tup a_nil) a_nil)))
  (s_seq (s_for (i_rng1 (x_var 0)) (g_name 4) [4]
  (s_seq (s_set 5 (x_lst a_nil))
  (s_seq (s_for (i_seq (x_var 2)) (g_name 6) [6]
  (s_seq (s_setF 7 (x_var 1))
  (s_seq (s_if (t_of (x_bin q_gt (x_cb c_len (a_cons (x_var 6) a_nil)) (x_c (.int 0))))
  (s_setF 7 (x_ix (x_var 6) (x_bin p_sub (x_cb c_len (a_cons (x_var 6) a_nil)) (x_c (.int 1)))))
  s_nx)
  (s_seq (s_for (i_rng2 (x_c (.int 1)) (x_bin p_add (x_var 7) (x_c (.int 1)))) (g_name 8) [8]
  (s_drop (x_app 5 (x_bin p_add (x_var 6) (x_tup (a_cons (x_var 8) a_nil))))))
  s_nx))))
  (s_seq (s_setF 2 (x_cb c_list (a_cons (x_var 5) a_nil)))
  (s_seq (s_setF 3 (x_bin p_add (x_var 3) (x_var 5)))
  s_nx)))))
  (s_seq (s_ret (x_cb c_sortedB (a_cons (x_var 3) a_nil)))
  s_nx))))
def F__law_listed : List PyData → Option Rs := runF 2 7 g__law_listed
def g__law_bound : Fs :=
  (s_seq (s_setF 1 (x_lst (a_cons (x_bin p_pow (x_c (.int 10)) (x_c (.int 29))) (a_cons (x_bin p_pow (x_c (.int 10)) (x_c (.int 14))) (a_cons (x_bin p_pow (x_c (.int 10)) (x_c (.int 9))) (a_cons (x_bin p_pow (x_c (.int 10)) (x_c (.int 7))) (a_cons (x_bin p_pow (x_c (.int 10)) (x_c (.int 5))) (a_cons (x_bin p_pow (x_c (.int 10)) (x_c (.int 4))) (a_cons (x_bin p_pow (x_c (.int 10)) (x_c (.int 4))) (a_cons (x_c (.int 1000)) (a_cons (x_c (.int 1000)) (a_cons (x_c (.int 100)) (a_cons (x_c (.int 100)) (a_cons (x_c (.int 100)) (a_cons (x_c (.int 100)) (a_cons (x_c (.int 100)) a_nil))))))))))))))))
  (s_seq (s_if (t_of (x_bin q_gt (x_var 0) (x_cb c_len (a_cons (x_var 1) a_nil))))
  (s_ret (x_c (.int 20)))
  s_nx)
  (s_seq (s_ret (x_ix (x_var 1) (x_bin p_sub (x_var 0) (x_c (.int 1)))))
  s_nx)))
def F__law_bound : List PyData → Option Rs := runF 1 1 g__law_bound
def g_is_number : Fs :=
  (s_ret (x_and (x_call F_is_integer [] (a_cons (x_var 0) a_nil)) (x_bin q_ge (x_var 0) (x_c (.int 0)))))
def F_is_number : List PyData → Option Rs := runF 1 0 g_is_number
def g_is_natural : Fs :=
  (s_ret (x_and (x_call F_is_integer [] (a_cons (x_var 0) a_nil)) (x_bin q_ge (x_var 0) (x_c (.int 1)))))
def F_is_natural : List PyData → Option Rs := runF 1 0 g_is_natural
def g__law_draws : Fs :=
  (s_seq (s_set 2 (x_lst a_nil))
  (s_seq (s_for (i_seq (x_sl (x_var 0) o_no (o_at (x_c (.int 63))))) (g_name 3) [3]
  (s_seq (s_setF 4 (x_cb c_abs (a_cons (x_var 3) a_nil)))
  (s_seq (s_if (t_of (x_bin q_lt (x_var 4) (x_bin p_pow (x_c (.int 10)) (x_c (.int 18)))))
  (s_drop (x_app 2 (x_call F__law_mixed [] (a_cons (x_var 3) (a_cons (x_c (.int 2)) a_nil)))))
  (s_for (i_rng1 (x_c (.int 60))) (g_name 5) [5]
  (s_if (t_of (x_bin q_gt (x_var 4) (x_c (.int 0))))
  (s_seq (s_drop (x_app 2 (x_bin p_mod (x_cb c_int (a_cons (x_var 4) a_nil)) (x_c (.int 983)))))
  (s_seq (s_setF 4 (x_bin p_div (x_var 4) (x_c (.int 983))))
  s_nx))
  s_nx)))
  s_nx)))
  (s_seq (s_if (t_of (x_bin q_gt (x_cb c_len (a_cons (x_var 0) a_nil)) (x_c (.int 0))))
  (s_for (i_rng1 (x_var 1)) (g_name 5) [5]
  (s_drop (x_app 2 (x_call F__law_mixed [] (a_cons (x_ix (x_var 0) (x_bin p_mod (x_var 5) (x_cb c_min2 (a_cons (x_c (.int 63)) (a_cons (x_cb c_len (a_cons (x_var 0) a_nil)) a_nil))))) (a_cons (x_bin p_add (x_var 5) (x_c (.int 7))) a_nil))))))
  s_nx)
  (s_seq (s_set 2 (x_bin p_add (x_var 2) (x_rep (a_cons (x_c (.int 0)) a_nil) (x_var 1))))
  (s_seq (s_ret (x_sl (x_var 2) o_no (o_at (x_var 1))))
  s_nx)))))
def F__law_draws : List PyData → Option Rs := runF 2 4 g__law_draws
def g__law_place : Fs :=
  (s_seq (s_setF 2 (x_c (.int 0)))
  (s_seq (s_for (i_rng1 (x_cb c_len (a_cons (x_var 1) a_nil))) (g_name 3) [3]
  (s_setF 2 (x_bin p_add (x_var 2) (x_call F__law_product [] (a_cons (x_bin p_sub (x_bin p_sub (x_bin p_add (x_ix (x_var 1) (x_var 3)) (x_var 0)) (x_c (.int 1))) (x_var 3)) (a_cons (x_bin p_sub (x_var 0) (x_var 3)) a_nil))))))
  (s_seq (s_ret (x_var 2))
  s_nx)))
def F__law_place : List PyData → Option Rs := runF 2 2 g__law_place
def g__law_members : Fs :=
  (s_seq (s_setF 4 (x_tup a_nil))
  (s_seq (s_for (i_rng1 (x_c (.int 4))) (g_name 5) [5]
  (s_setF 4 (x_bin p_add (x_var 4) (x_bin p_repT (x_tup (a_cons (x_ix (x_var 1) (x_var 5)) a_nil)) (x_bin p_mod (x_ix (x_var 2) (x_bin p_add (x_var 3) (x_var 5))) (x_c (.int 4)))))))
  (s_seq (s_if (t_of (x_bin p_eq (x_bin p_mod (x_ix (x_var 2) (x_bin p_add (x_var 3) (x_c (.int 4)))) (x_c (.int 4))) (x_c (.int 0))))
  (s_setF 4 (x_bin p_add (x_var 4) (x_bin p_repT (x_tup (a_cons (x_ix (x_var 1) (x_bin p_mod (x_ix (x_var 2) (x_bin p_add (x_var 3) (x_c (.int 5)))) (x_c (.int 4)))) a_nil)) (x_var 0))))
  s_nx)
  (s_seq (s_ret (x_call F__law_cut [] (a_cons (x_var 0) (a_cons (x_var 4) a_nil))))
  s_nx))))
def F__law_members : List PyData → Option Rs := runF 4 2 g__law_members
def g_is_row : Fs :=
  (s_seq (s_if (t_not (t_of (x_isi .tuple (x_var 0))))
  (s_ret (x_c (.bool false)))
  s_nx)
  (s_seq (s_if (t_not (t_of (x_cb c_all (a_cons (x_lc (i_seq (x_var 0)) (g_name 2) t_yes (x_call F_is_natural [] (a_cons (x_var 2) a_nil)) [2]) a_nil))))
  (s_ret (x_c (.bool false)))
  s_nx)
  (s_seq (s_ret (x_cb c_all (a_cons (x_lc (i_rng1 (x_bin p_sub (x_cb c_len (a_cons (x_var 0) a_nil)) (x_c (.int 1)))) (g_name 1) t_yes (x_bin q_ge (x_ix (x_var 0) (x_var 1)) (x_ix (x_var 0) (x_bin p_add (x_var 1) (x_c (.int 1))))) [1]) a_nil)))
  s_nx)))
def F_is_row : List PyData → Option Rs := runF 1 2 g_is_row
def gx_row_of : Fsx :=
  (x_seq (x_ifS (t_not (t_of (x_call F_is_natural [] (a_cons (x_var 0) a_nil))))
  (x_raise "NotUsable" ["word", "at"] (a_cons (x_c (.str "width")) (a_cons (x_neg (x_c (.int 1))) a_nil)))
  (xS s_nx))
  (x_seq (x_ifS (t_not (t_of (x_call F_is_number [] (a_cons (x_var 1) a_nil))))
  (x_raise "NotUsable" ["word", "at"] (a_cons (x_c (.str "number")) (a_cons (x_neg (x_c (.int 1))) a_nil)))
  (xS s_nx))
  (x_seq (xS (s_set 2 (x_lst a_nil)))
  (x_seq (xS (s_setF 3 (x_var 1)))
  (x_seq (xS (s_setF 4 (x_var 0)))
  (x_seq (xS (s_while (fuI 3) (t_of (x_bin q_gt (x_var 3) (x_c (.int 0))))
  (s_seq (s_setF 5 (x_call F__greatest_member [] (a_cons (x_var 4) (a_cons (x_var 3) a_nil))))
  (s_seq (s_drop (x_app 2 (x_var 5)))
  (s_seq (s_setF 3 (x_bin p_sub (x_var 3) (x_cb c_comb (a_cons (x_bin p_sub (x_bin p_add (x_var 5) (x_var 4)) (x_c (.int 1))) (a_cons (x_var 4) a_nil)))))
  (s_seq (s_setF 4 (x_bin p_sub (x_var 4) (x_c (.int 1))))
  s_nx))))))
  (x_seq (xS (s_ret (x_cb c_tuple (a_cons (x_var 2) a_nil))))
  (xS s_nx))))))))
def FX_row_of : List PyData → Option Ro := runX 2 4 gx_row_of
def g_row_of : Fs :=
  (s_seq (s_if (t_not (t_of (x_call F_is_natural [] (a_cons (x_var 0) a_nil))))
  s_no
  s_nx)
  (s_seq (s_if (t_not (t_of (x_call F_is_number [] (a_cons (x_var 1) a_nil))))
  s_no
  s_nx)
  (s_seq (s_set 2 (x_lst a_nil))
  (s_seq (s_setF 3 (x_var 1))
  (s_seq (s_setF 4 (x_var 0))
  (s_seq (s_while (fuI 3) (t_of (x_bin q_gt (x_var 3) (x_c (.int 0))))
  (s_seq (s_setF 5 (x_call F__greatest_member [] (a_cons (x_var 4) (a_cons (x_var 3) a_nil))))
  (s_seq (s_drop (x_app 2 (x_var 5)))
  (s_seq (s_setF 3 (x_bin p_sub (x_var 3) (x_cb c_comb (a_cons (x_bin p_sub (x_bin p_add (x_var 5) (x_var 4)) (x_c (.int 1))) (a_cons (x_var 4) a_nil)))))
  (s_seq (s_setF 4 (x_bin p_sub (x_var 4) (x_c (.int 1))))
  s_nx)))))
  (s_seq (s_ret (x_cb c_tuple (a_cons (x_var 2) a_nil)))
  s_nx)))))))
def F_row_of : List PyData → Option Rs := runF 2 4 g_row_of
def g_capacity : Fs :=
  (s_seq (s_if (t_not (t_of (x_call F_is_natural [] (a_cons (x_var 0) a_nil))))
  s_no
  s_nx)
  (s_seq (s_if (t_not (t_of (x_call F_is_natural [] (a_cons (x_var 1) a_nil))))
  s_no
  s_nx)
  (s_seq (s_ret (x_cb c_comb (a_cons (x_bin p_add (x_var 0) (x_var 1)) (a_cons (x_var 1) a_nil))))
  s_nx)))
def F_capacity : List PyData → Option Rs := runF 2 0 g_capacity
def gx_merged : Fsx :=
  (x_seq (x_ifS (t_or (t_not (t_of (x_isi .tuple (x_var 0)))) (t_not (t_of (x_cb c_all (a_cons (x_lc (i_seq (x_var 0)) (g_name 1) t_yes (x_call F_is_row [] (a_cons (x_var 1) a_nil)) [1]) a_nil)))))
  (x_raise "NotUsable" ["word", "at"] (a_cons (x_c (.str "rows")) (a_cons (x_neg (x_c (.int 1))) a_nil)))
  (xS s_nx))
  (x_seq (xS (s_ret (x_call F_falling [] (a_cons (x_lc2 (i_seq (x_var 0)) (g_name 1) t_yes (i_seq (x_var 1)) (g_name 2) t_yes (x_var 2) [1, 2] [2]) a_nil))))
  (xS s_nx)))
def FX_merged : List PyData → Option Ro := runX 1 2 gx_merged
def g_merged : Fs :=
  (s_seq (s_if (t_or (t_not (t_of (x_isi .tuple (x_var 0)))) (t_not (t_of (x_cb c_all (a_cons (x_lc (i_seq (x_var 0)) (g_name 1) t_yes (x_call F_is_row [] (a_cons (x_var 1) a_nil)) [1]) a_nil)))))
  s_no
  s_nx)
  (s_seq (s_ret (x_call F_falling [] (a_cons (x_lc2 (i_seq (x_var 0)) (g_name 1) t_yes (i_seq (x_var 1)) (g_name 2) t_yes (x_var 2) [1, 2] [2]) a_nil)))
  s_nx))
def F_merged : List PyData → Option Rs := runF 1 2 g_merged
def gx__check_row : Fsx :=
  (x_seq (x_ifS (t_not (t_of (x_call F_is_natural [] (a_cons (x_var 0) a_nil))))
  (x_raise "NotUsable" ["word", "at"] (a_cons (x_c (.str "width")) (a_cons (x_neg (x_c (.int 1))) a_nil)))
  (xS s_nx))
  (x_seq (x_ifS (t_or (t_not (t_of (x_call F_is_row [] (a_cons (x_var 1) a_nil)))) (t_of (x_bin q_gt (x_cb c_len (a_cons (x_var 1) a_nil)) (x_var 0))))
  (x_raise "NotUsable" ["word", "at"] (a_cons (x_c (.str "row")) (a_cons (x_neg (x_c (.int 1))) a_nil)))
  (xS s_nx))
  (xS s_nx)))
def FX__check_row : List PyData → Option Ro := runX 2 0 gx__check_row
def g__check_row : Fs :=
  (s_seq (s_if (t_not (t_of (x_call F_is_natural [] (a_cons (x_var 0) a_nil))))
  s_no
  s_nx)
  (s_seq (s_if (t_or (t_not (t_of (x_call F_is_row [] (a_cons (x_var 1) a_nil)))) (t_of (x_bin q_gt (x_cb c_len (a_cons (x_var 1) a_nil)) (x_var 0))))
  s_no
  s_nx)
  s_nx))
def F__check_row : List PyData → Option Rs := runF 2 0 g__check_row
def gx_number_of : Fsx :=
  (x_seq (x_drop (x_callX FX__check_row [] (a_cons (x_var 0) (a_cons (x_var 1) a_nil))))
  (x_seq (xS (s_setF 2 (x_c (.int 0))))
  (x_seq (xS (s_for (i_enum (x_var 1)) (g_tup [3, 4]) [3, 4]
  (s_setF 2 (x_bin p_add (x_var 2) (x_cb c_comb (a_cons (x_bin p_sub (x_bin p_sub (x_bin p_add (x_var 4) (x_var 0)) (x_var 3)) (x_c (.int 1))) (a_cons (x_bin p_sub (x_var 0) (x_var 3)) a_nil)))))))
  (x_seq (xS (s_ret (x_var 2)))
  (xS s_nx)))))
def FX_number_of : List PyData → Option Ro := runX 2 3 gx_number_of
def g_number_of : Fs :=
  (s_seq (s_drop (x_call F__check_row [] (a_cons (x_var 0) (a_cons (x_var 1) a_nil))))
  (s_seq (s_setF 2 (x_c (.int 0)))
  (s_seq (s_for (i_enum (x_var 1)) (g_tup [3, 4]) [3, 4]
  (s_setF 2 (x_bin p_add (x_var 2) (x_cb c_comb (a_cons (x_bin p_sub (x_bin p_sub (x_bin p_add (x_var 4) (x_var 0)) (x_var 3)) (x_c (.int 1))) (a_cons (x_bin p_sub (x_var 0) (x_var 3)) a_nil))))))
  (s_seq (s_ret (x_var 2))
  s_nx))))
def F_number_of : List PyData → Option Rs := runF 2 3 g_number_of
def gx_joined : Fsx :=
  (x_seq (x_ifS (t_not (t_of (x_call F_is_natural [] (a_cons (x_var 0) a_nil))))
  (x_raise "NotUsable" ["word", "at"] (a_cons (x_c (.str "width")) (a_cons (x_neg (x_c (.int 1))) a_nil)))
  (xS s_nx))
  (x_seq (x_ifS (t_not (t_of (x_call F_is_number [] (a_cons (x_var 1) a_nil))))
  (x_raise "NotUsable" ["word", "at"] (a_cons (x_c (.str "one")) (a_cons (x_neg (x_c (.int 1))) a_nil)))
  (xS s_nx))
  (x_seq (x_ifS (t_not (t_of (x_call F_is_number [] (a_cons (x_var 2) a_nil))))
  (x_raise "NotUsable" ["word", "at"] (a_cons (x_c (.str "other")) (a_cons (x_neg (x_c (.int 1))) a_nil)))
  (xS s_nx))
  (x_seq (x_set 3 (x_callX FX_merged [] (a_cons (x_tup (a_cons (x_call F_row_of [] (a_cons (x_var 0) (a_cons (x_var 1) a_nil))) (a_cons (x_call F_row_of [] (a_cons (x_var 0) (a_cons (x_var 2) a_nil))) a_nil))) a_nil)))
  (x_seq (x_ret (x_callX FX_number_of [] (a_cons (x_var 0) (a_cons (x_sl (x_var 3) o_no (o_at (x_var 0))) a_nil))))
  (xS s_nx))))))
def FX_joined : List PyData → Option Ro := runX 3 1 gx_joined
def g_joined : Fs :=
  (s_seq (s_if (t_not (t_of (x_call F_is_natural [] (a_cons (x_var 0) a_nil))))
  s_no
  s_nx)
  (s_seq (s_if (t_not (t_of (x_call F_is_number [] (a_cons (x_var 1) a_nil))))
  s_no
  s_nx)
  (s_seq (s_if (t_not (t_of (x_call F_is_number [] (a_cons (x_var 2) a_nil))))
  s_no
  s_nx)
  (s_seq (s_setF 3 (x_call F_merged [] (a_cons (x_tup (a_cons (x_call F_row_of [] (a_cons (x_var 0) (a_cons (x_var 1) a_nil))) (a_cons (x_call F_row_of [] (a_cons (x_var 0) (a_cons (x_var 2) a_nil))) a_nil))) a_nil)))
  (s_seq (s_ret (x_call F_number_of [] (a_cons (x_var 0) (a_cons (x_sl (x_var 3) o_no (o_at (x_var 0))) a_nil))))
  s_nx)))))
def F_joined : List PyData → Option Rs := runF 3 1 g_joined
def gx_joined_all : Fsx :=
  (x_seq (x_ifS (t_not (t_of (x_call F_is_natural [] (a_cons (x_var 0) a_nil))))
  (x_raise "NotUsable" ["word", "at"] (a_cons (x_c (.str "width")) (a_cons (x_neg (x_c (.int 1))) a_nil)))
  (xS s_nx))
  (x_seq (x_ifS (t_or (t_not (t_of (x_isi .tuple (x_var 1)))) (t_not (t_of (x_cb c_all (a_cons (x_lc (i_seq (x_var 1)) (g_name 3) t_yes (x_call F_is_number [] (a_cons (x_var 3) a_nil)) [3]) a_nil)))))
  (x_raise "NotUsable" ["word", "at"] (a_cons (x_c (.str "numbers")) (a_cons (x_neg (x_c (.int 1))) a_nil)))
  (xS s_nx))
  (x_seq (x_set 2 (x_callX FX_merged [] (a_cons (x_cb c_tuple (a_cons (x_lc (i_seq (x_var 1)) (g_name 3) t_yes (x_call F_row_of [] (a_cons (x_var 0) (a_cons (x_var 3) a_nil))) [3]) a_nil)) a_nil)))
  (x_seq (x_ret (x_callX FX_number_of [] (a_cons (x_var 0) (a_cons (x_sl (x_var 2) o_no (o_at (x_var 0))) a_nil))))
  (xS s_nx)))))
def FX_joined_all : List PyData → Option Ro := runX 2 2 gx_joined_all
def g_joined_all : Fs :=
  (s_seq (s_if (t_not (t_of (x_call F_is_natural [] (a_cons (x_var 0) a_nil))))
  s_no
  s_nx)
  (s_seq (s_if (t_or (t_not (t_of (x_isi .tuple (x_var 1)))) (t_not (t_of (x_cb c_all (a_cons (x_lc (i_seq (x_var 1)) (g_name 3) t_yes (x_call F_is_number [] (a_cons (x_var 3) a_nil)) [3]) a_nil)))))
  s_no
  s_nx)
  (s_seq (s_setF 2 (x_call F_merged [] (a_cons (x_cb c_tuple (a_cons (x_lc (i_seq (x_var 1)) (g_name 3) t_yes (x_call F_row_of [] (a_cons (x_var 0) (a_cons (x_var 3) a_nil))) [3]) a_nil)) a_nil)))
  (s_seq (s_ret (x_call F_number_of [] (a_cons (x_var 0) (a_cons (x_sl (x_var 2) o_no (o_at (x_var 0))) a_nil))))
  s_nx))))
def F_joined_all : List PyData → Option Rs := runF 2 2 g_joined_all
def gx_joined_many : Fsx :=
  (x_seq (x_ifS (t_not (t_of (x_call F_is_natural [] (a_cons (x_var 0) a_nil))))
  (x_raise "NotUsable" ["word", "at"] (a_cons (x_c (.str "width")) (a_cons (x_neg (x_c (.int 1))) a_nil)))
  (xS s_nx))
  (x_seq (x_ifS (t_not (t_of (x_call F_is_number [] (a_cons (x_var 1) a_nil))))
  (x_raise "NotUsable" ["word", "at"] (a_cons (x_c (.str "number")) (a_cons (x_neg (x_c (.int 1))) a_nil)))
  (xS s_nx))
  (x_seq (x_ifS (t_not (t_of (x_call F_is_number [] (a_cons (x_var 2) a_nil))))
  (x_raise "NotUsable" ["word", "at"] (a_cons (x_c (.str "many")) (a_cons (x_neg (x_c (.int 1))) a_nil)))
  (xS s_nx))
  (x_seq (xS (s_setF 3 (x_if (t_of (x_bin q_lt (x_var 2) (x_var 0))) (x_var 2) (x_var 0))))
  (x_seq (x_set 4 (x_callX FX_row_of [] (a_cons (x_var 0) (a_cons (x_var 1) a_nil))))
  (x_seq (x_set 5 (x_callX FX_merged [] (a_cons (x_bin p_repT (x_tup (a_cons (x_var 4) a_nil)) (x_var 3)) a_nil)))
  (x_seq (x_ret (x_callX FX_number_of [] (a_cons (x_var 0) (a_cons (x_sl (x_var 5) o_no (o_at (x_var 0))) a_nil))))
  (xS s_nx))))))))
def FX_joined_many : List PyData → Option Ro := runX 3 3 gx_joined_many
def g_joined_many : Fs :=
  (s_seq (s_if (t_not (t_of (x_call F_is_natural [] (a_cons (x_var 0) a_nil))))
  s_no
  s_nx)
  (s_seq (s_if (t_not (t_of (x_call F_is_number [] (a_cons (x_var 1) a_nil))))
  s_no
  s_nx)
  (s_seq (s_if (t_not (t_of (x_call F_is_number [] (a_cons (x_var 2) a_nil))))
  s_no
  s_nx)
  (s_seq (s_setF 3 (x_if (t_of (x_bin q_lt (x_var 2) (x_var 0))) (x_var 2) (x_var 0)))
  (s_seq (s_setF 4 (x_call F_row_of [] (a_cons (x_var 0) (a_cons (x_var 1) a_nil))))
  (s_seq (s_setF 5 (x_call F_merged [] (a_cons (x_bin p_repT (x_tup (a_cons (x_var 4) a_nil)) (x_var 3)) a_nil)))
  (s_seq (s_ret (x_call F_number_of [] (a_cons (x_var 0) (a_cons (x_sl (x_var 5) o_no (o_at (x_var 0))) a_nil))))
  s_nx)))))))
def F_joined_many : List PyData → Option Rs := runF 3 3 g_joined_many
def g__law_small : Fs :=
  (s_seq (s_setF 3 (x_call F__law_listed [] (a_cons (x_var 0) (a_cons (x_var 1) a_nil))))
  (s_seq (s_setF 4 (x_bin p_mod (x_ix (x_var 2) (x_c (.int 10))) (x_cb c_len (a_cons (x_var 3) a_nil))))
  (s_seq (s_for (i_rng1 (x_cb c_len (a_cons (x_var 3) a_nil))) (g_name 5) [5]
  (s_seq (s_setF 9 (x_m1 q_index (x_var 3) (x_call F__law_cut [] (a_cons (x_var 0) (a_cons (x_bin p_add (x_ix (x_var 3) (x_var 4)) (x_ix (x_var 3) (x_var 5))) a_nil)))))
  (s_seq (s_if (t_or (t_not (t_of (x_call F__law_is [] (a_cons (x_call F_joined [] (a_cons (x_var 0) (a_cons (x_var 4) (a_cons (x_var 5) a_nil)))) (a_cons (x_var 9) a_nil))))) (t_not (t_of (x_call F__law_is [] (a_cons (x_callK F_joined [1, 2, 0] a_nil (a_cons (x_var 4) (a_cons (x_var 0) (a_cons (x_var 5) a_nil)))) (a_cons (x_var 9) a_nil))))))
  (s_ret (x_c (.bool false)))
  s_nx)
  s_nx)))
  (s_seq (s_setF 6 (x_bin p_mod (x_ix (x_var 2) (x_c (.int 11))) (x_c (.int 9))))
  (s_seq (s_if (t_of (x_bin p_eq (x_bin p_mod (x_ix (x_var 2) (x_c (.int 12))) (x_c (.int 8))) (x_c (.int 3))))
  (s_setF 6 (x_c (.int 40)))
  s_nx)
  (s_seq (s_setF 7 (x_lc (i_rng1 (x_var 6)) (g_name 12) t_yes (x_bin p_mod (x_bin p_mulT (x_ix (x_var 2) (x_bin p_add (x_c (.int 13)) (x_bin p_mod (x_var 12) (x_c (.int 9))))) (x_bin p_add (x_var 12) (x_c (.int 1)))) (x_cb c_len (a_cons (x_var 3) a_nil))) [12]))
  (s_seq (s_setF 8 (x_tup a_nil))
  (s_seq (s_for (i_seq (x_var 7)) (g_name 5) [5]
  (s_setF 8 (x_bin p_add (x_var 8) (x_ix (x_var 3) (x_var 5)))))
  (s_seq (s_setF 9 (x_m1 q_index (x_var 3) (x_call F__law_cut [] (a_cons (x_var 0) (a_cons (x_var 8) a_nil)))))
  (s_seq (s_if (t_not (t_of (x_call F__law_is [] (a_cons (x_call F_joined_all [] (a_cons (x_var 0) (a_cons (x_cb c_tuple (a_cons (x_var 7) a_nil)) a_nil))) (a_cons (x_var 9) a_nil)))))
  (s_ret (x_c (.bool false)))
  s_nx)
  (s_seq (s_if (t_not (t_of (x_call F__law_is [] (a_cons (x_callK F_joined_all [1, 0] a_nil (a_cons (x_cb c_tuple (a_cons (x_rvs (x_var 7)) a_nil)) (a_cons (x_var 0) a_nil))) (a_cons (x_var 9) a_nil)))))
  (s_ret (x_c (.bool false)))
  s_nx)
  (s_seq (s_setF 10 (x_c (.int 0)))
  (s_seq (s_for (i_seq (x_var 7)) (g_name 5) [5]
  (s_setF 10 (x_call F_joined [] (a_cons (x_var 0) (a_cons (x_var 5) (a_cons (x_var 10) a_nil))))))
  (s_seq (s_if (t_or (t_not (t_of (x_call F__law_is [] (a_cons (x_var 10) (a_cons (x_var 9) a_nil))))) (t_or (t_not (t_of (x_call F__law_is [] (a_cons (x_call F_joined_all [] (a_cons (x_var 0) (a_cons (x_tup a_nil) a_nil))) (a_cons (x_c (.int 0)) a_nil))))) (t_not (t_of (x_call F__law_is [] (a_cons (x_call F_joined_all [] (a_cons (x_var 0) (a_cons (x_tup (a_cons (x_var 4) a_nil)) a_nil))) (a_cons (x_var 4) a_nil)))))))
  (s_ret (x_c (.bool false)))
  s_nx)
  (s_seq (s_for (i_rng1 (x_bin p_add (x_var 0) (x_c (.int 4)))) (g_name 11) [11]
  (s_seq (s_setF 9 (x_m1 q_index (x_var 3) (x_call F__law_cut [] (a_cons (x_var 0) (a_cons (x_bin p_mulT (x_ix (x_var 3) (x_var 4)) (x_var 11)) a_nil)))))
  (s_seq (s_if (t_or (t_not (t_of (x_call F__law_is [] (a_cons (x_call F_joined_many [] (a_cons (x_var 0) (a_cons (x_var 4) (a_cons (x_var 11) a_nil)))) (a_cons (x_var 9) a_nil))))) (t_not (t_of (x_call F__law_is [] (a_cons (x_call F_joined_all [] (a_cons (x_var 0) (a_cons (x_bin p_repT (x_tup (a_cons (x_var 4) a_nil)) (x_var 11)) a_nil))) (a_cons (x_var 9) a_nil))))))
  (s_ret (x_c (.bool false)))
  s_nx)
  s_nx)))
  (s_seq (s_ret (x_c (.bool true)))
  s_nx))))))))))))))))
def F__law_small : List PyData → Option Rs := runF 3 10 g__law_small
def g__law_far : Fs :=
  (s_seq (s_setF 2 (x_lc (i_rng1 (x_c (.int 4))) (g_name 15) t_yes (x_bin p_add (x_c (.int 1)) (x_bin p_mod (x_cb c_int (a_cons (x_call F__law_great [] (a_cons (x_var 1) (a_cons (x_bin p_add (x_c (.int 46)) (x_bin p_mulT (x_c (.int 11)) (x_var 15))) a_nil))) a_nil)) (x_call F__law_bound [] (a_cons (x_var 0) a_nil)))) [15]))
  (s_seq (s_setF 3 (x_call F__law_members [] (a_cons (x_var 0) (a_cons (x_var 2) (a_cons (x_var 1) (a_cons (x_c (.int 22)) a_nil))))))
  (s_seq (s_setF 4 (x_call F__law_members [] (a_cons (x_var 0) (a_cons (x_var 2) (a_cons (x_var 1) (a_cons (x_c (.int 28)) a_nil))))))
  (s_seq (s_setF 5 (x_call F__law_members [] (a_cons (x_var 0) (a_cons (x_var 2) (a_cons (x_var 1) (a_cons (x_c (.int 34)) a_nil))))))
  (s_seq (s_setF 6 (x_call F__law_place [] (a_cons (x_var 0) (a_cons (x_var 3) a_nil))))
  (s_seq (s_setF 7 (x_call F__law_place [] (a_cons (x_var 0) (a_cons (x_var 4) a_nil))))
  (s_seq (s_setF 8 (x_call F__law_place [] (a_cons (x_var 0) (a_cons (x_var 5) a_nil))))
  (s_seq (s_setF 9 (x_call F__law_place [] (a_cons (x_var 0) (a_cons (x_call F__law_cut [] (a_cons (x_var 0) (a_cons (x_bin p_add (x_var 3) (x_var 4)) a_nil))) a_nil))))
  (s_seq (s_if (t_or (t_not (t_of (x_call F__law_is [] (a_cons (x_call F_joined [] (a_cons (x_var 0) (a_cons (x_var 6) (a_cons (x_var 7) a_nil)))) (a_cons (x_var 9) a_nil))))) (t_not (t_of (x_call F__law_is [] (a_cons (x_call F_joined [] (a_cons (x_var 0) (a_cons (x_var 7) (a_cons (x_var 6) a_nil)))) (a_cons (x_var 9) a_nil))))))
  (s_ret (x_c (.bool false)))
  s_nx)
  (s_seq (s_setF 10 (x_call F__law_place [] (a_cons (x_var 0) (a_cons (x_call F__law_cut [] (a_cons (x_var 0) (a_cons (x_bin p_add (x_bin p_add (x_var 3) (x_var 4)) (x_var 5)) a_nil))) a_nil))))
  (s_seq (s_if (t_or (t_not (t_of (x_call F__law_is [] (a_cons (x_call F_joined [] (a_cons (x_var 0) (a_cons (x_call F_joined [] (a_cons (x_var 0) (a_cons (x_var 6) (a_cons (x_var 7) a_nil)))) (a_cons (x_var 8) a_nil)))) (a_cons (x_var 10) a_nil))))) (t_not (t_of (x_call F__law_is [] (a_cons (x_call F_joined [] (a_cons (x_var 0) (a_cons (x_var 6) (a_cons (x_call F_joined [] (a_cons (x_var 0) (a_cons (x_var 7) (a_cons (x_var 8) a_nil)))) a_nil)))) (a_cons (x_var 10) a_nil))))))
  (s_ret (x_c (.bool false)))
  s_nx)
  (s_seq (s_if (t_or (t_not (t_of (x_call F__law_is [] (a_cons (x_call F_joined_all [] (a_cons (x_var 0) (a_cons (x_tup (a_cons (x_var 8) (a_cons (x_var 6) (a_cons (x_c (.int 0)) (a_cons (x_var 7) a_nil))))) a_nil))) (a_cons (x_var 10) a_nil))))) (t_not (t_of (x_call F__law_is [] (a_cons (x_call F_joined_all [] (a_cons (x_var 0) (a_cons (x_tup (a_cons (x_var 7) (a_cons (x_var 8) (a_cons (x_var 6) a_nil)))) a_nil))) (a_cons (x_var 10) a_nil))))))
  (s_ret (x_c (.bool false)))
  s_nx)
  (s_seq (s_setF 11 (x_call F__law_place [] (a_cons (x_var 0) (a_cons (x_call F__law_cut [] (a_cons (x_var 0) (a_cons (x_bin p_add (x_call F__law_after [] (a_cons (x_var 0) (a_cons (x_var 3) a_nil))) (x_var 4)) a_nil))) a_nil))))
  (s_seq (s_if (t_not (t_of (x_call F__law_is [] (a_cons (x_callK F_joined [2, 0, 1] a_nil (a_cons (x_bin p_add (x_var 6) (x_c (.int 1))) (a_cons (x_var 7) (a_cons (x_var 0) a_nil)))) (a_cons (x_var 11) a_nil)))))
  (s_ret (x_c (.bool false)))
  s_nx)
  (s_seq (s_if (t_or (t_not (t_of (x_call F__law_is [] (a_cons (x_call F_joined [] (a_cons (x_var 0) (a_cons (x_var 6) (a_cons (x_c (.int 0)) a_nil)))) (a_cons (x_var 6) a_nil))))) (t_not (t_of (x_call F__law_is [] (a_cons (x_call F_joined [] (a_cons (x_var 0) (a_cons (x_c (.int 0)) (a_cons (x_var 7) a_nil)))) (a_cons (x_var 7) a_nil))))))
  (s_ret (x_c (.bool false)))
  s_nx)
  (s_seq (s_setF 11 (x_call F__law_place [] (a_cons (x_var 0) (a_cons (x_call F__law_cut [] (a_cons (x_var 0) (a_cons (x_bin p_mulT (x_var 4) (x_var 0)) a_nil))) a_nil))))
  (s_seq (s_setF 12 (x_bin p_add (x_var 0) (x_call F__law_great [] (a_cons (x_var 1) (a_cons (x_c (.int 90)) a_nil)))))
  (s_seq (s_if (t_or (t_not (t_of (x_call F__law_is [] (a_cons (x_call F_joined_many [] (a_cons (x_var 0) (a_cons (x_var 7) (a_cons (x_var 12) a_nil)))) (a_cons (x_var 11) a_nil))))) (t_not (t_of (x_call F__law_is [] (a_cons (x_callK F_joined_many [2, 1, 0] a_nil (a_cons (x_var 0) (a_cons (x_var 7) (a_cons (x_var 0) a_nil)))) (a_cons (x_var 11) a_nil))))))
  (s_ret (x_c (.bool false)))
  s_nx)
  (s_seq (s_setF 13 (x_bin p_mod (x_ix (x_var 1) (x_c (.int 40))) (x_bin p_add (x_var 0) (x_c (.int 2)))))
  (s_seq (s_setF 11 (x_call F__law_place [] (a_cons (x_var 0) (a_cons (x_call F__law_cut [] (a_cons (x_var 0) (a_cons (x_bin p_mulT (x_var 5) (x_var 13)) a_nil))) a_nil))))
  (s_seq (s_if (t_not (t_of (x_call F__law_is [] (a_cons (x_call F_joined_many [] (a_cons (x_var 0) (a_cons (x_var 8) (a_cons (x_var 13) a_nil)))) (a_cons (x_var 11) a_nil)))))
  (s_ret (x_c (.bool false)))
  s_nx)
  (s_seq (s_setF 14 (x_call F_capacity [] (a_cons (x_var 0) (a_cons (x_bin p_add (x_c (.int 1)) (x_bin p_mod (x_ix (x_var 1) (x_c (.int 41))) (x_c (.int 99)))) a_nil))))
  (s_seq (s_ret (x_and (x_bin p_eq (x_bin q_lt (x_var 9) (x_var 14)) (x_and (x_bin q_lt (x_var 6) (x_var 14)) (x_bin q_lt (x_var 7) (x_var 14)))) (x_bin p_eq (x_var 14) (x_call F__law_product [] (a_cons (x_bin p_add (x_bin p_add (x_var 0) (x_c (.int 1))) (x_bin p_mod (x_ix (x_var 1) (x_c (.int 41))) (x_c (.int 99)))) (a_cons (x_var 0) a_nil))))))
  s_nx)))))))))))))))))))))))
def F__law_far : List PyData → Option Rs := runF 2 14 g__law_far
def gx__law_ask : Fsx :=
  (x_seq (x_ifS (t_of (x_bin p_eq (x_var 0) (x_c (.str "joined"))))
  (x_ret (x_callX FX_joined [] (a_cons (x_ix (x_var 1) (x_c (.int 0))) (a_cons (x_ix (x_var 1) (x_c (.int 1))) (a_cons (x_ix (x_var 1) (x_c (.int 2))) a_nil)))))
  (xS s_nx))
  (x_seq (x_ifS (t_of (x_bin p_eq (x_var 0) (x_c (.str "joined_all"))))
  (x_ret (x_callX FX_joined_all [] (a_cons (x_ix (x_var 1) (x_c (.int 0))) (a_cons (x_ix (x_var 1) (x_c (.int 1))) a_nil))))
  (xS s_nx))
  (x_seq (x_ret (x_callX FX_joined_many [] (a_cons (x_ix (x_var 1) (x_c (.int 0))) (a_cons (x_ix (x_var 1) (x_c (.int 1))) (a_cons (x_ix (x_var 1) (x_c (.int 2))) a_nil)))))
  (xS s_nx))))
def FX__law_ask : List PyData → Option Ro := runX 2 0 gx__law_ask
def g__law_ask : Fs :=
  (s_seq (s_if (t_of (x_bin p_eq (x_var 0) (x_c (.str "joined"))))
  (s_ret (x_call F_joined [] (a_cons (x_ix (x_var 1) (x_c (.int 0))) (a_cons (x_ix (x_var 1) (x_c (.int 1))) (a_cons (x_ix (x_var 1) (x_c (.int 2))) a_nil)))))
  s_nx)
  (s_seq (s_if (t_of (x_bin p_eq (x_var 0) (x_c (.str "joined_all"))))
  (s_ret (x_call F_joined_all [] (a_cons (x_ix (x_var 1) (x_c (.int 0))) (a_cons (x_ix (x_var 1) (x_c (.int 1))) a_nil))))
  s_nx)
  (s_seq (s_ret (x_call F_joined_many [] (a_cons (x_ix (x_var 1) (x_c (.int 0))) (a_cons (x_ix (x_var 1) (x_c (.int 1))) (a_cons (x_ix (x_var 1) (x_c (.int 2))) a_nil)))))
  s_nx)))
def F__law_ask : List PyData → Option Rs := runF 2 0 g__law_ask
def g__law_word : Fs :=
  (s_seq (noX (x_try (x_drop (x_callX FX__law_ask [] (a_cons (x_var 0) (a_cons (x_var 1) a_nil)))) (tabF xtab "NotUsable") 2 (fun k a dd =>
  (s_seq (s_if (t_not (t_of (x_call F__law_is [] (a_cons (x_fld xok k a dd 2 "at") (a_cons (x_neg (x_c (.int 1))) a_nil)))))
  (s_ret (x_c (.str "at")))
  s_nx)
  (s_seq (s_ret (x_fld xok k a dd 2 "word"))
  s_nx)))))
  (s_seq (s_ret (x_c (.str "let")))
  s_nx))
def F__law_word : List PyData → Option Rs := runF 2 1 g__law_word
def g__law_refusals : Fs :=
  (s_seq (s_setF 2 (x_lst (a_cons (x_tup (a_cons (x_c (.str "joined")) (a_cons (x_tup (a_cons (x_var 0) (a_cons (x_var 0) (a_cons (x_var 0) a_nil)))) (a_cons (x_c (.str "width")) a_nil)))) (a_cons (x_tup (a_cons (x_c (.str "joined")) (a_cons (x_tup (a_cons (x_var 1) (a_cons (x_var 0) (a_cons (x_var 0) a_nil)))) (a_cons (x_c (.str "one")) a_nil)))) (a_cons (x_tup (a_cons (x_c (.str "joined")) (a_cons (x_tup (a_cons (x_var 1) (a_cons (x_c (.int 3)) (a_cons (x_var 0) a_nil)))) (a_cons (x_c (.str "other")) a_nil)))) a_nil)))))
  (s_seq (s_setF 2 (x_bin p_add (x_var 2) (x_lst (a_cons (x_tup (a_cons (x_c (.str "joined")) (a_cons (x_tup (a_cons (x_c (.int 0)) (a_cons (x_c (.int 1)) (a_cons (x_c (.int 1)) a_nil)))) (a_cons (x_c (.str "width")) a_nil)))) (a_cons (x_tup (a_cons (x_c (.str "joined")) (a_cons (x_tup (a_cons (x_c (.bool true)) (a_cons (x_c (.int 1)) (a_cons (x_c (.int 1)) a_nil)))) (a_cons (x_c (.str "width")) a_nil)))) (a_cons (x_tup (a_cons (x_c (.str "joined")) (a_cons (x_tup (a_cons (x_var 1) (a_cons (x_neg (x_c (.int 1))) (a_cons (x_c (.bool true)) a_nil)))) (a_cons (x_c (.str "one")) a_nil)))) a_nil))))))
  (s_seq (s_setF 2 (x_bin p_add (x_var 2) (x_lst (a_cons (x_tup (a_cons (x_c (.str "joined")) (a_cons (x_tup (a_cons (x_var 1) (a_cons (x_c (.bool true)) (a_cons (x_c (.int 1)) a_nil)))) (a_cons (x_c (.str "one")) a_nil)))) (a_cons (x_tup (a_cons (x_c (.str "joined")) (a_cons (x_tup (a_cons (x_var 1) (a_cons (x_c (.int 1)) (a_cons (x_neg (x_c (.int 1))) a_nil)))) (a_cons (x_c (.str "other")) a_nil)))) (a_cons (x_tup (a_cons (x_c (.str "joined")) (a_cons (x_tup (a_cons (x_var 1) (a_cons (x_c (.int 0)) (a_cons (x_c (.bool true)) a_nil)))) (a_cons (x_c (.str "other")) a_nil)))) a_nil))))))
  (s_seq (s_setF 2 (x_bin p_add (x_var 2) (x_lst (a_cons (x_tup (a_cons (x_c (.str "joined_all")) (a_cons (x_tup (a_cons (x_var 0) (a_cons (x_var 0) a_nil))) (a_cons (x_c (.str "width")) a_nil)))) (a_cons (x_tup (a_cons (x_c (.str "joined_all")) (a_cons (x_tup (a_cons (x_c (.int 0)) (a_cons (x_tup a_nil) a_nil))) (a_cons (x_c (.str "width")) a_nil)))) a_nil)))))
  (s_seq (s_setF 2 (x_bin p_add (x_var 2) (x_lst (a_cons (x_tup (a_cons (x_c (.str "joined_all")) (a_cons (x_tup (a_cons (x_var 1) (a_cons (x_c (.int 5)) a_nil))) (a_cons (x_c (.str "numbers")) a_nil)))) a_nil))))
  (s_seq (s_setF 2 (x_bin p_add (x_var 2) (x_lst (a_cons (x_tup (a_cons (x_c (.str "joined_all")) (a_cons (x_tup (a_cons (x_var 1) (a_cons (x_lst (a_cons (x_c (.int 1)) (a_cons (x_c (.int 2)) a_nil))) a_nil))) (a_cons (x_c (.str "numbers")) a_nil)))) (a_cons (x_tup (a_cons (x_c (.str "joined_all")) (a_cons (x_tup (a_cons (x_var 1) (a_cons (x_tup (a_cons (x_c (.int 1)) (a_cons (x_neg (x_c (.int 1))) a_nil))) a_nil))) (a_cons (x_c (.str "numbers")) a_nil)))) a_nil)))))
  (s_seq (s_setF 2 (x_bin p_add (x_var 2) (x_lst (a_cons (x_tup (a_cons (x_c (.str "joined_all")) (a_cons (x_tup (a_cons (x_var 1) (a_cons (x_tup (a_cons (x_c (.int 3)) (a_cons (x_var 0) (a_cons (x_c (.int 1)) a_nil)))) a_nil))) (a_cons (x_c (.str "numbers")) a_nil)))) (a_cons (x_tup (a_cons (x_c (.str "joined_all")) (a_cons (x_tup (a_cons (x_var 1) (a_cons (x_tup (a_cons (x_c (.bool true)) a_nil)) a_nil))) (a_cons (x_c (.str "numbers")) a_nil)))) a_nil)))))
  (s_seq (s_setF 2 (x_bin p_add (x_var 2) (x_lst (a_cons (x_tup (a_cons (x_c (.str "joined_all")) (a_cons (x_tup (a_cons (x_var 1) (a_cons (x_c .none) a_nil))) (a_cons (x_c (.str "numbers")) a_nil)))) (a_cons (x_tup (a_cons (x_c (.str "joined_all")) (a_cons (x_tup (a_cons (x_var 1) (a_cons (x_tup (a_cons (x_c (.int 2)) (a_cons (x_tup (a_cons (x_c (.int 1)) a_nil)) a_nil))) a_nil))) (a_cons (x_c (.str "numbers")) a_nil)))) a_nil)))))
  (s_seq (s_setF 2 (x_bin p_add (x_var 2) (x_lst (a_cons (x_tup (a_cons (x_c (.str "joined_many")) (a_cons (x_tup (a_cons (x_var 0) (a_cons (x_var 0) (a_cons (x_var 0) a_nil)))) (a_cons (x_c (.str "width")) a_nil)))) (a_cons (x_tup (a_cons (x_c (.str "joined_many")) (a_cons (x_tup (a_cons (x_neg (x_c (.int 1))) (a_cons (x_c (.int 1)) (a_cons (x_c (.int 1)) a_nil)))) (a_cons (x_c (.str "width")) a_nil)))) a_nil)))))
  (s_seq (s_setF 2 (x_bin p_add (x_var 2) (x_lst (a_cons (x_tup (a_cons (x_c (.str "joined_many")) (a_cons (x_tup (a_cons (x_var 1) (a_cons (x_var 0) (a_cons (x_var 0) a_nil)))) (a_cons (x_c (.str "number")) a_nil)))) (a_cons (x_tup (a_cons (x_c (.str "joined_many")) (a_cons (x_tup (a_cons (x_var 1) (a_cons (x_neg (x_c (.int 1))) (a_cons (x_c (.int 0)) a_nil)))) (a_cons (x_c (.str "number")) a_nil)))) a_nil)))))
  (s_seq (s_setF 2 (x_bin p_add (x_var 2) (x_lst (a_cons (x_tup (a_cons (x_c (.str "joined_many")) (a_cons (x_tup (a_cons (x_var 1) (a_cons (x_c (.int 2)) (a_cons (x_var 0) a_nil)))) (a_cons (x_c (.str "many")) a_nil)))) (a_cons (x_tup (a_cons (x_c (.str "joined_many")) (a_cons (x_tup (a_cons (x_var 1) (a_cons (x_c (.int 0)) (a_cons (x_neg (x_c (.int 1))) a_nil)))) (a_cons (x_c (.str "many")) a_nil)))) a_nil)))))
  (s_seq (s_setF 2 (x_bin p_add (x_var 2) (x_lst (a_cons (x_tup (a_cons (x_c (.str "joined_many")) (a_cons (x_tup (a_cons (x_var 1) (a_cons (x_c (.int 1)) (a_cons (x_c (.bool true)) a_nil)))) (a_cons (x_c (.str "many")) a_nil)))) (a_cons (x_tup (a_cons (x_c (.str "joined_many")) (a_cons (x_tup (a_cons (x_c (.bool true)) (a_cons (x_c (.int 1)) (a_cons (x_c (.int 1)) a_nil)))) (a_cons (x_c (.str "width")) a_nil)))) a_nil)))))
  (s_seq (s_for (i_seq (x_var 2)) (g_name 3) [3]
  (s_if (t_of (x_bin p_ne (x_call F__law_word [] (a_cons (x_ix (x_var 3) (x_c (.int 0))) (a_cons (x_ix (x_var 3) (x_c (.int 1))) a_nil))) (x_ix (x_var 3) (x_c (.int 2)))))
  (s_ret (x_c (.bool false)))
  s_nx))
  (s_seq (s_setF 4 (x_lst (a_cons (x_tup (a_cons (x_c (.str "joined")) (a_cons (x_tup (a_cons (x_var 1) (a_cons (x_c (.int 0)) (a_cons (x_c (.int 0)) a_nil)))) (a_cons (x_c (.int 0)) a_nil)))) (a_cons (x_tup (a_cons (x_c (.str "joined")) (a_cons (x_tup (a_cons (x_var 1) (a_cons (x_c (.int 0)) (a_cons (x_var 1) a_nil)))) (a_cons (x_var 1) a_nil)))) (a_cons (x_tup (a_cons (x_c (.str "joined")) (a_cons (x_tup (a_cons (x_c (.int 1)) (a_cons (x_c (.int 4)) (a_cons (x_c (.int 9)) a_nil)))) (a_cons (x_c (.int 9)) a_nil)))) (a_cons (x_tup (a_cons (x_c (.str "joined_all")) (a_cons (x_tup (a_cons (x_var 1) (a_cons (x_tup a_nil) a_nil))) (a_cons (x_c (.int 0)) a_nil)))) a_nil))))))
  (s_seq (s_setF 4 (x_bin p_add (x_var 4) (x_lst (a_cons (x_tup (a_cons (x_c (.str "joined_all")) (a_cons (x_tup (a_cons (x_var 1) (a_cons (x_tup (a_cons (x_c (.int 0)) (a_cons (x_c (.int 0)) (a_cons (x_c (.int 7)) a_nil)))) a_nil))) (a_cons (x_c (.int 7)) a_nil)))) (a_cons (x_tup (a_cons (x_c (.str "joined_all")) (a_cons (x_tup (a_cons (x_var 1) (a_cons (x_tup (a_cons (x_c (.int 0)) a_nil)) a_nil))) (a_cons (x_c (.int 0)) a_nil)))) (a_cons (x_tup (a_cons (x_c (.str "joined_many")) (a_cons (x_tup (a_cons (x_var 1) (a_cons (x_c (.int 5)) (a_cons (x_c (.int 0)) a_nil)))) (a_cons (x_c (.int 0)) a_nil)))) a_nil))))))
  (s_seq (s_setF 4 (x_bin p_add (x_var 4) (x_lst (a_cons (x_tup (a_cons (x_c (.str "joined_many")) (a_cons (x_tup (a_cons (x_var 1) (a_cons (x_c (.int 0)) (a_cons (x_c (.int 9)) a_nil)))) (a_cons (x_c (.int 0)) a_nil)))) (a_cons (x_tup (a_cons (x_c (.str "joined_many")) (a_cons (x_tup (a_cons (x_var 1) (a_cons (x_c (.int 5)) (a_cons (x_c (.int 1)) a_nil)))) (a_cons (x_c (.int 5)) a_nil)))) (a_cons (x_tup (a_cons (x_c (.str "joined_many")) (a_cons (x_tup (a_cons (x_c (.int 1)) (a_cons (x_c (.int 8)) (a_cons (x_c (.int 6)) a_nil)))) (a_cons (x_c (.int 8)) a_nil)))) a_nil))))))
  (s_seq (s_for (i_seq (x_var 4)) (g_name 3) [3]
  (s_if (t_or (t_of (x_bin p_ne (x_call F__law_word [] (a_cons (x_ix (x_var 3) (x_c (.int 0))) (a_cons (x_ix (x_var 3) (x_c (.int 1))) a_nil))) (x_c (.str "let")))) (t_not (t_of (x_call F__law_is [] (a_cons (x_call F__law_ask [] (a_cons (x_ix (x_var 3) (x_c (.int 0))) (a_cons (x_ix (x_var 3) (x_c (.int 1))) a_nil))) (a_cons (x_ix (x_var 3) (x_c (.int 2))) a_nil))))))
  (s_ret (x_c (.bool false)))
  s_nx))
  (s_seq (s_ret (x_c (.bool true)))
  s_nx))))))))))))))))))
def F__law_refusals : List PyData → Option Rs := runF 2 3 g__law_refusals
def g_law : Fs :=
  (s_seq (s_setF 1 (x_call F__law_draws [] (a_cons (x_var 0) (a_cons (x_c (.int 102)) a_nil))))
  (s_seq (s_setF 2 (x_lst (a_cons (x_tup (a_cons (x_c (.int 1)) (a_cons (x_c (.int 12)) a_nil))) (a_cons (x_tup (a_cons (x_c (.int 2)) (a_cons (x_c (.int 5)) a_nil))) (a_cons (x_tup (a_cons (x_c (.int 3)) (a_cons (x_c (.int 4)) a_nil))) (a_cons (x_tup (a_cons (x_c (.int 4)) (a_cons (x_c (.int 3)) a_nil))) (a_cons (x_tup (a_cons (x_c (.int 5)) (a_cons (x_c (.int 2)) a_nil))) (a_cons (x_tup (a_cons (x_c (.int 2)) (a_cons (x_c (.int 6)) a_nil))) (a_cons (x_tup (a_cons (x_c (.int 6)) (a_cons (x_c (.int 2)) a_nil))) (a_cons (x_tup (a_cons (x_c (.int 9)) (a_cons (x_c (.int 1)) a_nil))) a_nil))))))))))
  (s_seq (s_setF 3 (x_ix (x_var 2) (x_bin p_mod (x_ix (x_var 1) (x_c (.int 0))) (x_c (.int 8)))))
  (s_seq (s_if (t_not (t_of (x_call F__law_small [] (a_cons (x_ix (x_var 3) (x_c (.int 0))) (a_cons (x_ix (x_var 3) (x_c (.int 1))) (a_cons (x_var 1) a_nil))))))
  (s_ret (x_c (.bool false)))
  s_nx)
  (s_seq (s_setF 4 (x_bin p_add (x_c (.int 1)) (x_bin p_mod (x_ix (x_var 1) (x_c (.int 1))) (x_c (.int 40)))))
  (s_seq (s_if (t_of (x_bin q_gt (x_bin p_mod (x_ix (x_var 1) (x_c (.int 2))) (x_c (.int 4))) (x_c (.int 0))))
  (s_setF 4 (x_bin p_add (x_c (.int 1)) (x_bin p_mod (x_ix (x_var 1) (x_c (.int 1))) (x_c (.int 8)))))
  s_nx)
  (s_seq (s_if (t_not (t_of (x_call F__law_far [] (a_cons (x_var 4) (a_cons (x_var 1) a_nil)))))
  (s_ret (x_c (.bool false)))
  s_nx)
  (s_seq (s_setF 5 (x_lst (a_cons (x_c .none) (a_cons (x_c (.str "3")) (a_cons (x_lst a_nil) (a_cons (x_neg (x_c (.int 1))) (a_cons (x_tup (a_cons (x_c (.int 2)) a_nil)) (a_cons (x_c (.bool false)) (a_cons (x_c (.bool true)) (a_cons (x_neg (x_bin p_pow (x_c (.int 10)) (x_c (.int 22)))) a_nil))))))))))
  (s_seq (s_ret (x_call F__law_refusals [] (a_cons (x_ix (x_var 5) (x_bin p_mod (x_ix (x_var 1) (x_c (.int 3))) (x_c (.int 8)))) (a_cons (x_bin p_add (x_c (.int 1)) (x_bin p_mod (x_ix (x_var 1) (x_c (.int 4))) (x_c (.int 7)))) a_nil))))
  s_nx)))))))))
def F_law : List PyData → Option Rs := runF 1 5 g_law
end
end K19
namespace K19
open PySem PySem.Spec PyProof.Rows L2 DL
def top (i : Nat) : Stmt := PySem.Challenge.pw_sincemarks_k19_whole_joining.main.body.getD i (.Pass ⟨0, 0, 0, 0⟩)
abbrev s_is_integer : Stmt := top 6
abbrev s_is_number : Stmt := top 7
abbrev s_is_natural : Stmt := top 8
abbrev s_falling : Stmt := top 10
abbrev s_is_row : Stmt := top 12
abbrev s_merged : Stmt := top 13
abbrev s__check_row : Stmt := top 15
abbrev s__greatest_member : Stmt := top 16
abbrev s_number_of : Stmt := top 17
abbrev s_row_of : Stmt := top 18
abbrev s_joined : Stmt := top 20
abbrev s_joined_all : Stmt := top 21
abbrev s_joined_many : Stmt := top 22
abbrev s_capacity : Stmt := top 24
abbrev s__law_mixed : Stmt := top 26
abbrev s__law_draws : Stmt := top 27
abbrev s__law_is : Stmt := top 28
abbrev s__law_great : Stmt := top 29
abbrev s__law_product : Stmt := top 30
abbrev s__law_place : Stmt := top 31
abbrev s__law_cut : Stmt := top 32
abbrev s__law_after : Stmt := top 33
abbrev s__law_listed : Stmt := top 34
abbrev s__law_small : Stmt := top 35
abbrev s__law_bound : Stmt := top 36
abbrev s__law_members : Stmt := top 37
abbrev s__law_far : Stmt := top 38
abbrev s__law_ask : Stmt := top 39
abbrev s__law_word : Stmt := top 40
abbrev s__law_refusals : Stmt := top 41
abbrev s_law : Stmt := top 42
def d_is_integer : He.DefD := ⟨("is_integer", none), "is_integer", "is_integer", defArgs s_is_integer, defBody s_is_integer, defScope s_is_integer, [], []⟩
def d_is_number : He.DefD := ⟨("is_number", none), "is_number", "is_number", defArgs s_is_number, defBody s_is_number, defScope s_is_number, [], []⟩
def d_is_natural : He.DefD := ⟨("is_natural", none), "is_natural", "is_natural", defArgs s_is_natural, defBody s_is_natural, defScope s_is_natural, [], []⟩
def d_falling : He.DefD := ⟨("falling", none), "falling", "falling", defArgs s_falling, defBody s_falling, defScope s_falling, [], []⟩
def d_is_row : He.DefD := ⟨("is_row", none), "is_row", "is_row", defArgs s_is_row, defBody s_is_row, defScope s_is_row, [], []⟩
def d_merged : He.DefD := ⟨("merged", none), "merged", "merged", defArgs s_merged, defBody s_merged, defScope s_merged, [], []⟩
def d__check_row : He.DefD := ⟨("_check_row", none), "_check_row", "_check_row", defArgs s__check_row, defBody s__check_row, defScope s__check_row, [], []⟩
def d__greatest_member : He.DefD := ⟨("_greatest_member", none), "_greatest_member", "_greatest_member", defArgs s__greatest_member, defBody s__greatest_member, defScope s__greatest_member, [], []⟩
def d_number_of : He.DefD := ⟨("number_of", none), "number_of", "number_of", defArgs s_number_of, defBody s_number_of, defScope s_number_of, [], []⟩
def d_row_of : He.DefD := ⟨("row_of", none), "row_of", "row_of", defArgs s_row_of, defBody s_row_of, defScope s_row_of, [], []⟩
def d_joined : He.DefD := ⟨("joined", none), "joined", "joined", defArgs s_joined, defBody s_joined, defScope s_joined, [], []⟩
def d_joined_all : He.DefD := ⟨("joined_all", none), "joined_all", "joined_all", defArgs s_joined_all, defBody s_joined_all, defScope s_joined_all, [], []⟩
def d_joined_many : He.DefD := ⟨("joined_many", none), "joined_many", "joined_many", defArgs s_joined_many, defBody s_joined_many, defScope s_joined_many, [], []⟩
def d_capacity : He.DefD := ⟨("capacity", none), "capacity", "capacity", defArgs s_capacity, defBody s_capacity, defScope s_capacity, [], []⟩
def d__law_mixed : He.DefD := ⟨("_law_mixed", none), "_law_mixed", "_law_mixed", defArgs s__law_mixed, defBody s__law_mixed, defScope s__law_mixed, [], []⟩
def d__law_draws : He.DefD := ⟨("_law_draws", none), "_law_draws", "_law_draws", defArgs s__law_draws, defBody s__law_draws, defScope s__law_draws, [], []⟩
def d__law_is : He.DefD := ⟨("_law_is", none), "_law_is", "_law_is", defArgs s__law_is, defBody s__law_is, defScope s__law_is, [], []⟩
def d__law_great : He.DefD := ⟨("_law_great", none), "_law_great", "_law_great", defArgs s__law_great, defBody s__law_great, defScope s__law_great, [], []⟩
def d__law_product : He.DefD := ⟨("_law_product", none), "_law_product", "_law_product", defArgs s__law_product, defBody s__law_product, defScope s__law_product, [], []⟩
def d__law_place : He.DefD := ⟨("_law_place", none), "_law_place", "_law_place", defArgs s__law_place, defBody s__law_place, defScope s__law_place, [], []⟩
def d__law_cut : He.DefD := ⟨("_law_cut", none), "_law_cut", "_law_cut", defArgs s__law_cut, defBody s__law_cut, defScope s__law_cut, [], []⟩
def d__law_after : He.DefD := ⟨("_law_after", none), "_law_after", "_law_after", defArgs s__law_after, defBody s__law_after, defScope s__law_after, [], []⟩
def d__law_listed : He.DefD := ⟨("_law_listed", none), "_law_listed", "_law_listed", defArgs s__law_listed, defBody s__law_listed, defScope s__law_listed, [], []⟩
def d__law_small : He.DefD := ⟨("_law_small", none), "_law_small", "_law_small", defArgs s__law_small, defBody s__law_small, defScope s__law_small, [], []⟩
def d__law_bound : He.DefD := ⟨("_law_bound", none), "_law_bound", "_law_bound", defArgs s__law_bound, defBody s__law_bound, defScope s__law_bound, [], []⟩
def d__law_members : He.DefD := ⟨("_law_members", none), "_law_members", "_law_members", defArgs s__law_members, defBody s__law_members, defScope s__law_members, [], []⟩
def d__law_far : He.DefD := ⟨("_law_far", none), "_law_far", "_law_far", defArgs s__law_far, defBody s__law_far, defScope s__law_far, [], []⟩
def d__law_ask : He.DefD := ⟨("_law_ask", none), "_law_ask", "_law_ask", defArgs s__law_ask, defBody s__law_ask, defScope s__law_ask, [], []⟩
def d__law_word : He.DefD := ⟨("_law_word", none), "_law_word", "_law_word", defArgs s__law_word, defBody s__law_word, defScope s__law_word, [], []⟩
def d__law_refusals : He.DefD := ⟨("_law_refusals", none), "_law_refusals", "_law_refusals", defArgs s__law_refusals, defBody s__law_refusals, defScope s__law_refusals, [], []⟩
def d_law : He.DefD := ⟨("law", none), "law", "law", defArgs s_law, defBody s_law, defScope s_law, [], []⟩
def ex : PySem.W.Frag → Bool := fun K => exB xcs xys xfs xtab K && blB [("comb", "math.comb")] K
abbrev s_i_NotUsable : Stmt := inCls (top 4) 0
def d_i_NotUsable : He.DefD := ⟨("NotUsable", some "__init__"), "__init__", "NotUsable.__init__", defArgs s_i_NotUsable, defBody s_i_NotUsable, defScope s_i_NotUsable, [], []⟩
def fn : List He.DefD := [d_is_integer, d_is_number, d_is_natural, d_falling, d_is_row, d_merged, d__check_row, d__greatest_member, d_number_of, d_row_of, d_joined, d_joined_all, d_joined_many, d_capacity, d__law_mixed, d__law_draws, d__law_is, d__law_great, d__law_product, d__law_place, d__law_cut, d__law_after, d__law_listed, d__law_small, d__law_bound, d__law_members, d__law_far, d__law_ask, d__law_word, d__law_refusals, d_law, d_i_NotUsable]
def fa : List He.Fa := [.glo "is_integer", .glo "is_number", .glo "is_natural", .glo "falling", .glo "is_row", .glo "merged", .glo "_check_row", .glo "_greatest_member", .glo "number_of", .glo "row_of", .glo "joined", .glo "joined_all", .glo "joined_many", .glo "capacity", .glo "_law_mixed", .glo "_law_draws", .glo "_law_is", .glo "_law_great", .glo "_law_product", .glo "_law_place", .glo "_law_cut", .glo "_law_after", .glo "_law_listed", .glo "_law_small", .glo "_law_bound", .glo "_law_members", .glo "_law_far", .glo "_law_ask", .glo "_law_word", .glo "_law_refusals", .glo "law", .free "ValueError", .free "abs", .free "all", .free "bool", .free "enumerate", .free "int", .free "isinstance", .free "len", .free "list", .free "min", .free "range", .free "sorted", .free "tuple"]
def names0 : List Str := ["BookError", "MarkError", "NotUsable", "_check_row", "_greatest_member", "_law_after", "_law_ask", "_law_bound", "_law_cut", "_law_draws", "_law_far", "_law_great", "_law_is", "_law_listed", "_law_members", "_law_mixed", "_law_place", "_law_product", "_law_refusals", "_law_small", "_law_word", "capacity", "comb", "falling", "is_integer", "is_natural", "is_number", "is_row", "joined", "joined_all"]
def names1 : List Str := ["joined_many", "merged", "number_of", "row_of"]
def names : List Str := names0 ++ names1
abbrev R : PySem.W.OpenRow := PySem.W.OpenLaw.row PySem.Challenge.rw_sincemarks_k19_whole_joining
abbrev hk : PySem.W.Hook := hookX 4 fa fn ex
def ob (s : PySem.W.SharedT) : He.AlD × Bool := obsXG 4 fa fn ex (HandSHeadRun.getT s)
theorem ob_eq (s : PySem.W.SharedT) : ob s = hk.obs s.abs := obsXG_eq (HandSHeadRun.getT_eq s)
theorem run (w : World) : HandSHeadRun.RunEqI R (PySem.W.view R.prog [0, 42]) hk ob 6000 names w := by
  unfold HandSHeadRun.RunEqI
  kernel_rfl
end K19
namespace K19
open PySem PySem.Spec PyProof.Rows L2 DL
structure Bi (mg : Str → Option Value) : Prop where
  abs : mg ("abs" : Str) = none
  all : mg ("all" : Str) = none
  bool : mg ("bool" : Str) = none
  enumerate : mg ("enumerate" : Str) = none
  int : mg ("int" : Str) = none
  isinstance : mg ("isinstance" : Str) = none
  len : mg ("len" : Str) = none
  list : mg ("list" : Str) = none
  min : mg ("min" : Str) = none
  range : mg ("range" : Str) = none
  sorted : mg ("sorted" : Str) = none
  tuple : mg ("tuple" : Str) = none
structure Mi (mg : Str → Option Value) : Prop where
  comb : mg ("comb" : Str) = some (.builtin "math.comb")
theorem sc_is_integer : FnScope ["thing"] ["thing"] (defScope s_is_integer) := ⟨rfl, rfl, rfl, by decide +kernel, rfl, by decide +kernel, by decide +kernel⟩
theorem sc_falling : FnScope ["members"] ["members"] (defScope s_falling) := ⟨rfl, rfl, rfl, by decide +kernel, rfl, by decide +kernel, by decide +kernel⟩
theorem sc__greatest_member : FnScope ["few", "rest", "high", "low", "middle"] ["few", "rest"] (defScope s__greatest_member) := ⟨rfl, rfl, rfl, by decide +kernel, rfl, by decide +kernel, by decide +kernel⟩
theorem sc__law_mixed : FnScope ["_law_cell", "_law_k", "_law_x"] ["_law_cell", "_law_k"] (defScope s__law_mixed) := ⟨rfl, rfl, rfl, by decide +kernel, rfl, by decide +kernel, by decide +kernel⟩
theorem sc__law_is : FnScope ["_law_got", "_law_due"] ["_law_got", "_law_due"] (defScope s__law_is) := ⟨rfl, rfl, rfl, by decide +kernel, rfl, by decide +kernel, by decide +kernel⟩
theorem sc__law_great : FnScope ["_law_d", "_law_k", "_law_told", "_law_i"] ["_law_d", "_law_k"] (defScope s__law_great) := ⟨rfl, rfl, rfl, by decide +kernel, rfl, by decide +kernel, by decide +kernel⟩
theorem sc__law_product : FnScope ["_law_a", "_law_b", "_law_told", "_law_k"] ["_law_a", "_law_b"] (defScope s__law_product) := ⟨rfl, rfl, rfl, by decide +kernel, rfl, by decide +kernel, by decide +kernel⟩
theorem sc__law_cut : FnScope ["_law_u", "_law_members_here"] ["_law_u", "_law_members_here"] (defScope s__law_cut) := ⟨rfl, rfl, rfl, by decide +kernel, rfl, by decide +kernel, by decide +kernel⟩
theorem sc__law_after : FnScope ["_law_u", "_law_members_here", "_law_least", "_law_a"] ["_law_u", "_law_members_here"] (defScope s__law_after) := ⟨rfl, rfl, rfl, by decide +kernel, rfl, by decide +kernel, by decide +kernel⟩
theorem sc__law_listed : FnScope ["_law_u", "_law_c", "_law_longest", "_law_told", "_law_k", "_law_further", "_law_old", "_law_last", "_law_b"] ["_law_u", "_law_c"] (defScope s__law_listed) := ⟨rfl, rfl, rfl, by decide +kernel, rfl, by decide +kernel, by decide +kernel⟩
theorem sc__law_bound : FnScope ["_law_u", "_law_bounds"] ["_law_u"] (defScope s__law_bound) := ⟨rfl, rfl, rfl, by decide +kernel, rfl, by decide +kernel, by decide +kernel⟩
theorem sc_is_number : FnScope ["thing"] ["thing"] (defScope s_is_number) := ⟨rfl, rfl, rfl, by decide +kernel, rfl, by decide +kernel, by decide +kernel⟩
theorem sc_is_natural : FnScope ["thing"] ["thing"] (defScope s_is_natural) := ⟨rfl, rfl, rfl, by decide +kernel, rfl, by decide +kernel, by decide +kernel⟩
theorem sc__law_draws : FnScope ["_law_script", "_law_length", "_law_told", "_law_cell", "_law_left", "_law_k"] ["_law_script", "_law_length"] (defScope s__law_draws) := ⟨rfl, rfl, rfl, by decide +kernel, rfl, by decide +kernel, by decide +kernel⟩
theorem sc__law_place : FnScope ["_law_u", "_law_members_here", "_law_told", "_law_i"] ["_law_u", "_law_members_here"] (defScope s__law_place) := ⟨rfl, rfl, rfl, by decide +kernel, rfl, by decide +kernel, by decide +kernel⟩
theorem sc__law_members : FnScope ["_law_u", "_law_pool", "_law_d", "_law_k", "_law_told", "_law_i"] ["_law_u", "_law_pool", "_law_d", "_law_k"] (defScope s__law_members) := ⟨rfl, rfl, rfl, by decide +kernel, rfl, by decide +kernel, by decide +kernel⟩
theorem sc_is_row : FnScope ["thing", "k", "member"] ["thing"] (defScope s_is_row) := ⟨rfl, rfl, rfl, by decide +kernel, rfl, by decide +kernel, by decide +kernel⟩
theorem sc_row_of : FnScope ["width", "number", "members", "rest", "few", "member"] ["width", "number"] (defScope s_row_of) := ⟨rfl, rfl, rfl, by decide +kernel, rfl, by decide +kernel, by decide +kernel⟩
theorem sc_capacity : FnScope ["width", "reach"] ["width", "reach"] (defScope s_capacity) := ⟨rfl, rfl, rfl, by decide +kernel, rfl, by decide +kernel, by decide +kernel⟩
theorem sc_merged : FnScope ["rows", "row", "member"] ["rows"] (defScope s_merged) := ⟨rfl, rfl, rfl, by decide +kernel, rfl, by decide +kernel, by decide +kernel⟩
theorem sc__check_row : FnScope ["width", "row"] ["width", "row"] (defScope s__check_row) := ⟨rfl, rfl, rfl, by decide +kernel, rfl, by decide +kernel, by decide +kernel⟩
theorem sc_number_of : FnScope ["width", "row", "number", "place", "member"] ["width", "row"] (defScope s_number_of) := ⟨rfl, rfl, rfl, by decide +kernel, rfl, by decide +kernel, by decide +kernel⟩
theorem sc_joined : FnScope ["width", "one", "other", "row"] ["width", "one", "other"] (defScope s_joined) := ⟨rfl, rfl, rfl, by decide +kernel, rfl, by decide +kernel, by decide +kernel⟩
theorem sc_joined_all : FnScope ["width", "numbers", "row", "number"] ["width", "numbers"] (defScope s_joined_all) := ⟨rfl, rfl, rfl, by decide +kernel, rfl, by decide +kernel, by decide +kernel⟩
theorem sc_joined_many : FnScope ["width", "number", "many", "copies", "own", "row"] ["width", "number", "many"] (defScope s_joined_many) := ⟨rfl, rfl, rfl, by decide +kernel, rfl, by decide +kernel, by decide +kernel⟩
theorem sc__law_small : FnScope ["_law_u", "_law_c", "_law_d", "_law_listed_here", "_law_x", "_law_y", "_law_size", "_law_picked", "_law_merged", "_law_due", "_law_folded", "_law_times", "_law_k"] ["_law_u", "_law_c", "_law_d"] (defScope s__law_small) := ⟨rfl, rfl, rfl, by decide +kernel, rfl, by decide +kernel, by decide +kernel⟩
theorem sc__law_far : FnScope ["_law_u", "_law_d", "_law_pool", "_law_left", "_law_right", "_law_third", "_law_x", "_law_y", "_law_z", "_law_both", "_law_every", "_law_due", "_law_far_here", "_law_times", "_law_room", "_law_k"] ["_law_u", "_law_d"] (defScope s__law_far) := ⟨rfl, rfl, rfl, by decide +kernel, rfl, by decide +kernel, by decide +kernel⟩
theorem sc__law_ask : FnScope ["_law_which", "_law_a"] ["_law_which", "_law_a"] (defScope s__law_ask) := ⟨rfl, rfl, rfl, by decide +kernel, rfl, by decide +kernel, by decide +kernel⟩
theorem sc__law_word : FnScope ["_law_which", "_law_a", "e"] ["_law_which", "_law_a"] (defScope s__law_word) := ⟨rfl, rfl, rfl, by decide +kernel, rfl, by decide +kernel, by decide +kernel⟩
theorem sc__law_refusals : FnScope ["_law_odd", "_law_u", "_law_bad", "_law_ask_here", "_law_good"] ["_law_odd", "_law_u"] (defScope s__law_refusals) := ⟨rfl, rfl, rfl, by decide +kernel, rfl, by decide +kernel, by decide +kernel⟩
theorem sc_law : FnScope ["_law_script", "_law_d", "_law_pairs", "_law_pair", "_law_u", "_law_odds"] ["_law_script"] (defScope s_law) := ⟨rfl, rfl, rfl, by decide +kernel, rfl, by decide +kernel, by decide +kernel⟩
theorem sc_i_NotUsable : FnScope ["self", "word", "at"] ["self", "word", "at"] (defScope s_i_NotUsable) := ⟨rfl, rfl, rfl, by decide +kernel, rfl, by decide +kernel, by decide +kernel⟩
section
variable {P : Program} {w : World} {K : PySem.W.Frag} {mg : Str → Option Value} {base : Heap} {f : Addr} {fd : FuncData} {dvs : List V} {kws : List (Str × V)}
theorem ok_is_integer (B : Bi mg) (F : FunD K "is_integer" "is_integer" (defArgs s_is_integer) (defBody s_is_integer) (defScope s_is_integer) dvs kws f fd) : FnOk P w K mg base CX0 1 f fd ["thing"] (spD K 1 F_is_integer) :=
  fnD F sc_is_integer rfl rfl fun cdv A outer s H E hr => (ssd_one (sd_ret (ed_and (ed_isi .int (ed_var 0) B.isinstance B.int) (ed_one (ed_not (ed_isi .bool (ed_var 0) B.isinstance B.bool))))))
theorem ok_falling (B : Bi mg) (F : FunD K "falling" "falling" (defArgs s_falling) (defBody s_falling) (defScope s_falling) dvs kws f fd) : FnOk P w K mg base CX0 1 f fd ["members"] (spD K 1 F_falling) :=
  fnD F sc_falling rfl rfl fun cdv A outer s H E hr => (ssd_one (sd_ret (ed_ct vc_tuple call_tuple_of B.tuple (ad_cons (ed_srt (ad_cons (ed_var 0) ad_nil) B.sorted) ad_nil))))
theorem ok__greatest_member (M : Mi mg) (F : FunD K "_greatest_member" "_greatest_member" (defArgs s__greatest_member) (defBody s__greatest_member) (defScope s__greatest_member) dvs kws f fd) : FnOk P w K mg base CX0 1 f fd ["few", "rest"] (spD K 2 F__greatest_member) :=
  fnD F sc__greatest_member rfl rfl fun cdv A outer s H E hr => (ssd_cons (sd_setF 2 sc__greatest_member.nd ed_int)
  (ssd_cons (sd_while (fun _ => 300) PassesOwn.never (td_cmp vq_le (oq_le hr.units) (nomark _) (ed_cm vc_comb cr_comb M.comb (ad_cons (ed_op vb_sub op_sub (ed_op vb_add op_add3 (ed_var 2) (ed_var 0)) ed_int) (ad_cons (ed_var 0) ad_nil))) (ed_var 1))
  (ssd_one (sd_setF 2 sc__greatest_member.nd (ed_op vb_mulT op_mulT (ed_var 2) ed_int))))
  (ssd_cons (sd_setF 3 sc__greatest_member.nd (ed_op vb_div op_fdivW (ed_var 2) ed_int))
  (ssd_cons (sd_while (fun _ => 300) PassesOwn.never (td_cmp vq_gt (oq_gt hr.units) (nomark _) (ed_op vb_sub op_sub (ed_var 2) (ed_var 3)) ed_int)
  (ssd_cons (sd_setF 4 sc__greatest_member.nd (ed_op vb_div op_fdivW (ed_op vb_add op_add3 (ed_var 3) (ed_var 2)) ed_int))
  (ssd_cons (sd_if (td_cmp vq_le (oq_le hr.units) (nomark _) (ed_cm vc_comb cr_comb M.comb (ad_cons (ed_op vb_sub op_sub (ed_op vb_add op_add3 (ed_var 4) (ed_var 0)) ed_int) (ad_cons (ed_var 0) ad_nil))) (ed_var 1))
  (ssd_one (sd_setF 3 sc__greatest_member.nd (ed_var 4)))
  (ssd_one (sd_setF 2 sc__greatest_member.nd (ed_var 4))))
  ssd_nil)))
  (ssd_cons (sd_ret (ed_var 3))
  ssd_nil)))))
theorem ok__law_mixed (B : Bi mg) (F : FunD K "_law_mixed" "_law_mixed" (defArgs s__law_mixed) (defBody s__law_mixed) (defScope s__law_mixed) dvs kws f fd) : FnOk P w K mg base CX0 1 f fd ["_law_cell", "_law_k"] (spD K 2 F__law_mixed) :=
  fnD F sc__law_mixed rfl rfl fun cdv A outer s H E hr => (ssd_cons (sd_setF 2 sc__law_mixed.nd (ed_op vb_mulT op_mulT (ed_op vb_add op_add3 (ed_op vb_mod op_mod (ed_ct vc_int call_int1 B.int (ad_cons (ed_var 0) ad_nil)) ed_int) ed_int) (ed_op vb_add op_add3 (ed_op vb_mulT op_mulT (ed_var 1) ed_int) ed_int)))
  (ssd_cons (sd_setF 2 sc__law_mixed.nd (ed_op vb_mulT op_mulT (ed_op vb_add op_add3 (ed_op vb_div op_fdivW (ed_op vb_mod op_mod (ed_ct vc_int call_int1 B.int (ad_cons (ed_var 2) ad_nil)) ed_int) ed_int) (ed_op vb_mulT op_mulT (ed_var 1) ed_int)) ed_int))
  (ssd_cons (sd_ret (ed_op vb_mod op_mod (ed_op vb_div op_fdivW (ed_op vb_mod op_mod (ed_ct vc_int call_int1 B.int (ad_cons (ed_var 2) ad_nil)) ed_int) ed_int) ed_int))
  ssd_nil)))
theorem okh__law_is (B : Bi mg) (F : FunD K "_law_is" "_law_is" (defArgs s__law_is) (defBody s__law_is) (defScope s__law_is) dvs kws f fd) : L2H.FnH P w K mg base CX0 1 f fd ["_law_got", "_law_due"] (spD K 2 F__law_is) :=
  fnDH F sc__law_is rfl rfl fun cdv A outer s H E p hr hot => (ssd_one (sd_ret (ed_and (ed_isi .int (ed_var 0) B.isinstance B.int) (ed_and (ed_not (ed_isi .bool (ed_var 0) B.isinstance B.bool)) (ed_one (ed_cmp vb_eq (op_eqD hr.units) (nomark _) (ed_var 0) (ed_var 1)))))))
theorem ok__law_is (B : Bi mg) (F : FunD K "_law_is" "_law_is" (defArgs s__law_is) (defBody s__law_is) (defScope s__law_is) dvs kws f fd) : FnOk P w K mg base CX0 1 f fd ["_law_got", "_law_due"] (spD K 2 F__law_is) :=
  fnD F sc__law_is rfl rfl fun cdv A outer s H E hr => (ssd_one (sd_ret (ed_and (ed_isi .int (ed_var 0) B.isinstance B.int) (ed_and (ed_not (ed_isi .bool (ed_var 0) B.isinstance B.bool)) (ed_one (ed_cmp vb_eq (op_eqD hr.units) (nomark _) (ed_var 0) (ed_var 1)))))))
theorem ok__law_great (B : Bi mg) (F : FunD K "_law_great" "_law_great" (defArgs s__law_great) (defBody s__law_great) (defScope s__law_great) dvs kws f fd) : FnOk P w K mg base CX0 1 f fd ["_law_d", "_law_k"] (spD K 2 F__law_great) :=
  fnD F sc__law_great rfl rfl fun cdv A outer s H E hr => (ssd_cons (sd_setF 2 sc__law_great.nd ed_int)
  (ssd_cons (sd_for rfl PassesOwn.never (id_rng1 (ed_op vb_add op_add3 ed_int (ed_op vb_mod op_mod (ed_ix (ed_var 0) (ed_var 1)) ed_int)) B.range) (gd_name (i := 3) sc__law_great.nd rfl (by first | exact .inl rfl | exact .inr rfl))
  (ssd_one (sd_setF 2 sc__law_great.nd (ed_op vb_add op_add3 (ed_op vb_mulT op_mulT (ed_var 2) ed_int) (ed_ix (ed_var 0) (ed_op vb_add op_add3 (ed_op vb_add op_add3 (ed_var 1) ed_int) (ed_var 3)))))))
  (ssd_cons (sd_ret (ed_var 2))
  ssd_nil)))
theorem ok__law_product (B : Bi mg) (F : FunD K "_law_product" "_law_product" (defArgs s__law_product) (defBody s__law_product) (defScope s__law_product) dvs kws f fd) : FnOk P w K mg base CX0 1 f fd ["_law_a", "_law_b"] (spD K 2 F__law_product) :=
  fnD F sc__law_product rfl rfl fun cdv A outer s H E hr => (ssd_cons (sd_setF 2 sc__law_product.nd ed_int)
  (ssd_cons (sd_for rfl PassesOwn.never (id_rng1 (ed_var 1) B.range) (gd_name (i := 3) sc__law_product.nd rfl (by first | exact .inl rfl | exact .inr rfl))
  (ssd_one (sd_setF 2 sc__law_product.nd (ed_op vb_div op_fdivW (ed_op vb_mulT op_mulT (ed_var 2) (ed_op vb_sub op_sub (ed_var 0) (ed_var 3))) (ed_op vb_add op_add3 (ed_var 3) ed_int)))))
  (ssd_cons (sd_ret (ed_op vb_mulT op_mulT (ed_var 2) (ed_ct vc_int call_int1 B.int (ad_cons (ed_cmp vq_ge (oq_ge hr.units) (nomark _) (ed_var 0) (ed_var 1)) ad_nil))))
  ssd_nil)))
theorem ok__law_cut (B : Bi mg) (F : FunD K "_law_cut" "_law_cut" (defArgs s__law_cut) (defBody s__law_cut) (defScope s__law_cut) dvs kws f fd) : FnOk P w K mg base CX0 1 f fd ["_law_u", "_law_members_here"] (spD K 2 F__law_cut) :=
  fnD F sc__law_cut rfl rfl fun cdv A outer s H E hr => (ssd_one (sd_ret (ed_ct vc_tuple call_tuple_of B.tuple (ad_cons (ed_sl (ed_srt (ad_cons (ed_var 1) ad_nil) B.sorted) od_no (od_at (ed_var 0))) ad_nil))))
theorem ok__law_after (B : Bi mg) (F : FunD K "_law_after" "_law_after" (defArgs s__law_after) (defBody s__law_after) (defScope s__law_after) dvs kws f fd) : FnOk P w K mg base CX0 1 f fd ["_law_u", "_law_members_here"] (spD K 2 F__law_after) :=
  fnD F sc__law_after rfl rfl fun cdv A outer s H E hr => (ssd_cons (sd_if (td_cmp vq_lt (oq_lt hr.units) (nomark _) (ed_cb vc_len call_len_seq B.len (ad_cons (ed_var 1) ad_nil)) (ed_var 0))
  (ssd_one (sd_ret (ed_op vb_add op_add3 (ed_var 1) (ed_tup (ad_cons ed_int ad_nil)))))
  ssd_nil)
  (ssd_cons (sd_setF 2 sc__law_after.nd (ed_ix (ed_var 1) (ed_op vb_sub op_sub (ed_cb vc_len call_len_seq B.len (ad_cons (ed_var 1) ad_nil)) ed_int)))
  (ssd_cons (sd_ret (ed_op vb_add op_add3 (ed_ct vc_tuple call_tuple_of B.tuple (ad_cons (ed_lc (own := [("_law_a", 3)]) rfl sc__law_after.nd (id_seq (ed_var 1)) (by first | decide | with_unfolding_all rfl) (by decide) (fun _ _ _ _ _ => (gd_name (i := 3) sc__law_after.nd rfl (by first | exact .inl rfl | exact .inr rfl))) (fun _ _ _ _ _ => (ptd_one (td_cmp vq_gt (oq_gt hr.units) (nomark _) (ed_var 3) (ed_var 2)))) (fun _ _ _ _ _ => (ed_var 3))) ad_nil)) (ed_tup (ad_cons (ed_op vb_add op_add3 (ed_var 2) ed_int) ad_nil))))
  ssd_nil)))
theorem ok__law_listed (B : Bi mg) (F : FunD K "_law_listed" "_law_listed" (defArgs s__law_listed) (defBody s__law_listed) (defScope s__law_listed) dvs kws f fd) : FnOk P w K mg base CX0 1 f fd ["_law_u", "_law_c"] (spD K 2 F__law_listed) :=
  fnD F sc__law_listed rfl rfl fun cdv A outer s H E hr => (ssd_cons (sd_setF 2 sc__law_listed.nd (ed_lst (ad_cons (ed_tup ad_nil) ad_nil)))
  (ssd_cons (sd_setF 3 sc__law_listed.nd (ed_lst (ad_cons (ed_tup ad_nil) ad_nil)))
  (ssd_cons (sd_for rfl PassesOwn.never (id_rng1 (ed_var 0) B.range) (gd_name (i := 4) sc__law_listed.nd rfl (by first | exact .inl rfl | exact .inr rfl))
  (ssd_cons (sd_set 5 sc__law_listed.nd (ed_lst ad_nil))
  (ssd_cons (sd_for rfl PassesOwn.never (id_seq (ed_var 2)) (gd_name (i := 6) sc__law_listed.nd rfl (by first | exact .inl rfl | exact .inr rfl))
  (ssd_cons (sd_setF 7 sc__law_listed.nd (ed_var 1))
  (ssd_cons (sd_if (td_cmp vq_gt (oq_gt hr.units) (nomark _) (ed_cb vc_len call_len_seq B.len (ad_cons (ed_var 6) ad_nil)) ed_int)
  (ssd_one (sd_setF 7 sc__law_listed.nd (ed_ix (ed_var 6) (ed_op vb_sub op_sub (ed_cb vc_len call_len_seq B.len (ad_cons (ed_var 6) ad_nil)) ed_int))))
  ssd_nil)
  (ssd_cons (sd_for rfl PassesOwn.never (id_rng2 ed_int (ed_op vb_add op_add3 (ed_var 7) ed_int) B.range) (gd_name (i := 8) sc__law_listed.nd rfl (by first | exact .inl rfl | exact .inr rfl))
  (ssd_one (sd_expr (ed_app 5 (ed_op vb_add op_add3 (ed_var 6) (ed_tup (ad_cons (ed_var 8) ad_nil)))))))
  ssd_nil))))
  (ssd_cons (sd_setF 2 sc__law_listed.nd (ed_ct vc_list call_list_of B.list (ad_cons (ed_var 5) ad_nil)))
  (ssd_cons (sd_setF 3 sc__law_listed.nd (ed_op vb_add op_add3 (ed_var 3) (ed_var 5)))
  ssd_nil)))))
  (ssd_cons (sd_ret (ed_cb vc_sortedB (cr_sortedB hr.units) B.sorted (ad_cons (ed_var 3) ad_nil)))
  ssd_nil))))
theorem ok__law_bound (B : Bi mg) (F : FunD K "_law_bound" "_law_bound" (defArgs s__law_bound) (defBody s__law_bound) (defScope s__law_bound) dvs kws f fd) : FnOk P w K mg base CX0 1 f fd ["_law_u"] (spD K 1 F__law_bound) :=
  fnD F sc__law_bound rfl rfl fun cdv A outer s H E hr => (ssd_cons (sd_setF 1 sc__law_bound.nd (ed_lst (ad_cons (ed_op vb_pow op_pow ed_int ed_int) (ad_cons (ed_op vb_pow op_pow ed_int ed_int) (ad_cons (ed_op vb_pow op_pow ed_int ed_int) (ad_cons (ed_op vb_pow op_pow ed_int ed_int) (ad_cons (ed_op vb_pow op_pow ed_int ed_int) (ad_cons (ed_op vb_pow op_pow ed_int ed_int) (ad_cons (ed_op vb_pow op_pow ed_int ed_int) (ad_cons ed_int (ad_cons ed_int (ad_cons ed_int (ad_cons ed_int (ad_cons ed_int (ad_cons ed_int (ad_cons ed_int ad_nil))))))))))))))))
  (ssd_cons (sd_if (td_cmp vq_gt (oq_gt hr.units) (nomark _) (ed_var 0) (ed_cb vc_len call_len_seq B.len (ad_cons (ed_var 1) ad_nil)))
  (ssd_one (sd_ret ed_int))
  ssd_nil)
  (ssd_cons (sd_ret (ed_ix (ed_var 1) (ed_op vb_sub op_sub (ed_var 0) ed_int)))
  ssd_nil)))
theorem ok_is_number (F : FunD K "is_number" "is_number" (defArgs s_is_number) (defBody s_is_number) (defScope s_is_number) dvs kws f fd) (c_is_integer : Kf P w K mg base 1 "is_integer" (spD K 1 F_is_integer) []) : FnOk P w K mg base CX0 2 f fd ["thing"] (spD K 1 F_is_number) :=
  fnD F sc_is_number rfl rfl fun cdv A outer s H E hr => (ssd_one (sd_ret (ed_and (ed_call c_is_integer hr (by decide) dvs0 runF_len (ad_cons (ed_var 0) ad_nil)) (ed_one (ed_cmp vq_ge (oq_ge hr.units) (nomark _) (ed_var 0) ed_int)))))
theorem ok_is_natural (F : FunD K "is_natural" "is_natural" (defArgs s_is_natural) (defBody s_is_natural) (defScope s_is_natural) dvs kws f fd) (c_is_integer : Kf P w K mg base 1 "is_integer" (spD K 1 F_is_integer) []) : FnOk P w K mg base CX0 2 f fd ["thing"] (spD K 1 F_is_natural) :=
  fnD F sc_is_natural rfl rfl fun cdv A outer s H E hr => (ssd_one (sd_ret (ed_and (ed_call c_is_integer hr (by decide) dvs0 runF_len (ad_cons (ed_var 0) ad_nil)) (ed_one (ed_cmp vq_ge (oq_ge hr.units) (nomark _) (ed_var 0) ed_int)))))
theorem ok__law_draws (B : Bi mg) (F : FunD K "_law_draws" "_law_draws" (defArgs s__law_draws) (defBody s__law_draws) (defScope s__law_draws) dvs kws f fd) (c__law_mixed : Kf P w K mg base 1 "_law_mixed" (spD K 2 F__law_mixed) []) : FnOk P w K mg base CX0 2 f fd ["_law_script", "_law_length"] (spD K 2 F__law_draws) :=
  fnD F sc__law_draws rfl rfl fun cdv A outer s H E hr => (ssd_cons (sd_set 2 sc__law_draws.nd (ed_lst ad_nil))
  (ssd_cons (sd_for rfl PassesOwn.never (id_seq (ed_sl (ed_var 0) od_no (od_at ed_int))) (gd_name (i := 3) sc__law_draws.nd rfl (by first | exact .inl rfl | exact .inr rfl))
  (ssd_cons (sd_setF 4 sc__law_draws.nd (ed_cb vc_abs call_abs B.abs (ad_cons (ed_var 3) ad_nil)))
  (ssd_cons (sd_if (td_cmp vq_lt (oq_lt hr.units) (nomark _) (ed_var 4) (ed_op vb_pow op_pow ed_int ed_int))
  (ssd_one (sd_expr (ed_app 2 (ed_call c__law_mixed hr (by decide) dvs0 runF_len (ad_cons (ed_var 3) (ad_cons ed_int ad_nil))))))
  (ssd_one (sd_for rfl PassesOwn.never (id_rng1 ed_int B.range) (gd_name (i := 5) sc__law_draws.nd rfl (by first | exact .inl rfl | exact .inr rfl))
  (ssd_one (sd_if (td_cmp vq_gt (oq_gt hr.units) (nomark _) (ed_var 4) ed_int)
  (ssd_cons (sd_expr (ed_app 2 (ed_op vb_mod op_mod (ed_ct vc_int call_int1 B.int (ad_cons (ed_var 4) ad_nil)) ed_int)))
  (ssd_cons (sd_setF 4 sc__law_draws.nd (ed_op vb_div op_fdivW (ed_var 4) ed_int))
  ssd_nil))
  ssd_nil)))))
  ssd_nil)))
  (ssd_cons (sd_if (td_cmp vq_gt (oq_gt hr.units) (nomark _) (ed_cb vc_len call_len_seq B.len (ad_cons (ed_var 0) ad_nil)) ed_int)
  (ssd_one (sd_for rfl PassesOwn.never (id_rng1 (ed_var 1) B.range) (gd_name (i := 5) sc__law_draws.nd rfl (by first | exact .inl rfl | exact .inr rfl))
  (ssd_one (sd_expr (ed_app 2 (ed_call c__law_mixed hr (by decide) dvs0 runF_len (ad_cons (ed_ix (ed_var 0) (ed_op vb_mod op_mod (ed_var 5) (ed_cb vc_min2 (call_min2 rfl) B.min (ad_cons ed_int (ad_cons (ed_cb vc_len call_len_seq B.len (ad_cons (ed_var 0) ad_nil)) ad_nil))))) (ad_cons (ed_op vb_add op_add3 (ed_var 5) ed_int) ad_nil))))))))
  ssd_nil)
  (ssd_cons (sd_set 2 sc__law_draws.nd (ed_op vb_add op_add3 (ed_var 2) (ed_rep (ad_cons ed_int ad_nil) (ed_var 1))))
  (ssd_cons (sd_ret (ed_sl (ed_var 2) od_no (od_at (ed_var 1))))
  ssd_nil)))))
theorem ok__law_place (B : Bi mg) (F : FunD K "_law_place" "_law_place" (defArgs s__law_place) (defBody s__law_place) (defScope s__law_place) dvs kws f fd) (c__law_product : Kf P w K mg base 1 "_law_product" (spD K 2 F__law_product) []) : FnOk P w K mg base CX0 2 f fd ["_law_u", "_law_members_here"] (spD K 2 F__law_place) :=
  fnD F sc__law_place rfl rfl fun cdv A outer s H E hr => (ssd_cons (sd_setF 2 sc__law_place.nd ed_int)
  (ssd_cons (sd_for rfl PassesOwn.never (id_rng1 (ed_cb vc_len call_len_seq B.len (ad_cons (ed_var 1) ad_nil)) B.range) (gd_name (i := 3) sc__law_place.nd rfl (by first | exact .inl rfl | exact .inr rfl))
  (ssd_one (sd_setF 2 sc__law_place.nd (ed_op vb_add op_add3 (ed_var 2) (ed_call c__law_product hr (by decide) dvs0 runF_len (ad_cons (ed_op vb_sub op_sub (ed_op vb_sub op_sub (ed_op vb_add op_add3 (ed_ix (ed_var 1) (ed_var 3)) (ed_var 0)) ed_int) (ed_var 3)) (ad_cons (ed_op vb_sub op_sub (ed_var 0) (ed_var 3)) ad_nil)))))))
  (ssd_cons (sd_ret (ed_var 2))
  ssd_nil)))
theorem ok__law_members (B : Bi mg) (F : FunD K "_law_members" "_law_members" (defArgs s__law_members) (defBody s__law_members) (defScope s__law_members) dvs kws f fd) (c__law_cut : Kf P w K mg base 1 "_law_cut" (spD K 2 F__law_cut) []) : FnOk P w K mg base CX0 2 f fd ["_law_u", "_law_pool", "_law_d", "_law_k"] (spD K 4 F__law_members) :=
  fnD F sc__law_members rfl rfl fun cdv A outer s H E hr => (ssd_cons (sd_setF 4 sc__law_members.nd (ed_tup ad_nil))
  (ssd_cons (sd_for rfl PassesOwn.never (id_rng1 ed_int B.range) (gd_name (i := 5) sc__law_members.nd rfl (by first | exact .inl rfl | exact .inr rfl))
  (ssd_one (sd_setF 4 sc__law_members.nd (ed_op vb_add op_add3 (ed_var 4) (ed_op vb_repT op_repB (ed_tup (ad_cons (ed_ix (ed_var 1) (ed_var 5)) ad_nil)) (ed_op vb_mod op_mod (ed_ix (ed_var 2) (ed_op vb_add op_add3 (ed_var 3) (ed_var 5))) ed_int))))))
  (ssd_cons (sd_if (td_cmp vb_eq (op_eqD hr.units) (nomark _) (ed_op vb_mod op_mod (ed_ix (ed_var 2) (ed_op vb_add op_add3 (ed_var 3) ed_int)) ed_int) ed_int)
  (ssd_one (sd_setF 4 sc__law_members.nd (ed_op vb_add op_add3 (ed_var 4) (ed_op vb_repT op_repB (ed_tup (ad_cons (ed_ix (ed_var 1) (ed_op vb_mod op_mod (ed_ix (ed_var 2) (ed_op vb_add op_add3 (ed_var 3) ed_int)) ed_int)) ad_nil)) (ed_var 0)))))
  ssd_nil)
  (ssd_cons (sd_ret (ed_call c__law_cut hr (by decide) dvs0 runF_len (ad_cons (ed_var 0) (ad_cons (ed_var 4) ad_nil))))
  ssd_nil))))
theorem ok_is_row (B : Bi mg) (F : FunD K "is_row" "is_row" (defArgs s_is_row) (defBody s_is_row) (defScope s_is_row) dvs kws f fd) (c_is_natural : Kf P w K mg base 2 "is_natural" (spD K 1 F_is_natural) []) : FnOk P w K mg base CX0 3 f fd ["thing"] (spD K 1 F_is_row) :=
  fnD F sc_is_row rfl rfl fun cdv A outer s H E hr => (ssd_cons (sd_if (td_not (td_val (ed_isi .tuple (ed_var 0) B.isinstance B.tuple)))
  (ssd_one (sd_ret ed_bl))
  ssd_nil)
  (ssd_cons (sd_if (td_not (td_val (ed_cb vc_all (cr_all rfl) B.all (ad_cons (ed_lc (own := [("member", 2)]) rfl sc_is_row.nd (id_seq (ed_var 0)) (by first | decide | with_unfolding_all rfl) (by decide) (fun _ _ _ _ _ => (gd_name (i := 2) sc_is_row.nd rfl (by first | exact .inl rfl | exact .inr rfl))) (fun _ _ _ _ _ => ptd_nil) (fun _ _ _ _ _ => (ed_call c_is_natural hr (by decide) dvs0 runF_len (ad_cons (ed_var 2) ad_nil)))) ad_nil))))
  (ssd_one (sd_ret ed_bl))
  ssd_nil)
  (ssd_cons (sd_ret (ed_cb vc_all (cr_all rfl) B.all (ad_cons (ed_lc (own := [("k", 1)]) rfl sc_is_row.nd (id_rng1 (ed_op vb_sub op_sub (ed_cb vc_len call_len_seq B.len (ad_cons (ed_var 0) ad_nil)) ed_int) B.range) (by first | decide | with_unfolding_all rfl) (by decide) (fun _ _ _ _ _ => (gd_name (i := 1) sc_is_row.nd rfl (by first | exact .inl rfl | exact .inr rfl))) (fun _ _ _ _ _ => ptd_nil) (fun _ _ _ _ _ => (ed_cmp vq_ge (oq_ge hr.units) (nomark _) (ed_ix (ed_var 0) (ed_var 1)) (ed_ix (ed_var 0) (ed_op vb_add op_add3 (ed_var 1) ed_int))))) ad_nil)))
  ssd_nil)))
theorem okx_row_of (B : Bi mg) (M : Mi mg) (XI : Xi K mg xcs xys xfs xtab) (XT_NotUsable : ExT P w K mg base "NotUsable" ["word", "at"]) (F : FunD K "row_of" "row_of" (defArgs s_row_of) (defBody s_row_of) (defScope s_row_of) dvs kws f fd) (c__greatest_member : Kf P w K mg base 1 "_greatest_member" (spD K 2 F__greatest_member) []) (c_is_natural : Kf P w K mg base 2 "is_natural" (spD K 1 F_is_natural) []) (c_is_number : Kf P w K mg base 2 "is_number" (spD K 1 F_is_number) []) : FnOk P w K mg base (L2N.CX P w) 3 f fd ["width", "number"] (spX K mg 2 FX_row_of) :=
  fnX F sc_row_of rfl rfl fun cdv A outer s H E hr tk => (ssdx_cons (sdx_if (td_not (td_val (ed_call c_is_natural hr (by decide) dvs0 runF_len (ad_cons (ed_var 0) ad_nil))))
  (ssdx_one (sdx_raise XT_NotUsable hr (by decide) rfl tk (ad_cons ed_str (ad_cons (ed_neg ed_int) ad_nil))))
  ssdx_nil)
  (ssdx_cons (sdx_if (td_not (td_val (ed_call c_is_number hr (by decide) dvs0 runF_len (ad_cons (ed_var 1) ad_nil))))
  (ssdx_one (sdx_raise XT_NotUsable hr (by decide) rfl tk (ad_cons ed_str (ad_cons (ed_neg ed_int) ad_nil))))
  ssdx_nil)
  (ssdx_cons (SD.x (sd_set 2 sc_row_of.nd (ed_lst ad_nil)))
  (ssdx_cons (SD.x (sd_setF 3 sc_row_of.nd (ed_var 1)))
  (ssdx_cons (SD.x (sd_setF 4 sc_row_of.nd (ed_var 0)))
  (ssdx_cons (SD.x (sd_while (fuI 3) (passes_of rfl) (td_cmp vq_gt (oq_gt hr.units) (nomark _) (ed_var 3) ed_int)
  (ssd_cons (sd_setF 5 sc_row_of.nd (ed_call c__greatest_member hr (by decide) dvs0 runF_len (ad_cons (ed_var 4) (ad_cons (ed_var 3) ad_nil))))
  (ssd_cons (sd_expr (ed_app 2 (ed_var 5)))
  (ssd_cons (sd_setF 3 sc_row_of.nd (ed_op vb_sub op_sub (ed_var 3) (ed_cm vc_comb cr_comb M.comb (ad_cons (ed_op vb_sub op_sub (ed_op vb_add op_add3 (ed_var 5) (ed_var 4)) ed_int) (ad_cons (ed_var 4) ad_nil)))))
  (ssd_cons (sd_setF 4 sc_row_of.nd (ed_op vb_sub op_sub (ed_var 4) ed_int))
  ssd_nil))))))
  (ssdx_cons (SD.x (sd_ret (ed_ct vc_tuple call_tuple_of B.tuple (ad_cons (ed_var 2) ad_nil))))
  ssdx_nil)))))))
theorem ok_row_of (B : Bi mg) (M : Mi mg) (F : FunD K "row_of" "row_of" (defArgs s_row_of) (defBody s_row_of) (defScope s_row_of) dvs kws f fd) (c__greatest_member : Kf P w K mg base 1 "_greatest_member" (spD K 2 F__greatest_member) []) (c_is_natural : Kf P w K mg base 2 "is_natural" (spD K 1 F_is_natural) []) (c_is_number : Kf P w K mg base 2 "is_number" (spD K 1 F_is_number) []) : FnOk P w K mg base CX0 3 f fd ["width", "number"] (spD K 2 F_row_of) :=
  fnD F sc_row_of rfl rfl fun cdv A outer s H E hr => (ssd_cons (sd_if (td_not (td_val (ed_call c_is_natural hr (by decide) dvs0 runF_len (ad_cons (ed_var 0) ad_nil))))
  (ssd_one sd_never)
  ssd_nil)
  (ssd_cons (sd_if (td_not (td_val (ed_call c_is_number hr (by decide) dvs0 runF_len (ad_cons (ed_var 1) ad_nil))))
  (ssd_one sd_never)
  ssd_nil)
  (ssd_cons (sd_set 2 sc_row_of.nd (ed_lst ad_nil))
  (ssd_cons (sd_setF 3 sc_row_of.nd (ed_var 1))
  (ssd_cons (sd_setF 4 sc_row_of.nd (ed_var 0))
  (ssd_cons (sd_while (fuI 3) PassesOwn.never (td_cmp vq_gt (oq_gt hr.units) (nomark _) (ed_var 3) ed_int)
  (ssd_cons (sd_setF 5 sc_row_of.nd (ed_call c__greatest_member hr (by decide) dvs0 runF_len (ad_cons (ed_var 4) (ad_cons (ed_var 3) ad_nil))))
  (ssd_cons (sd_expr (ed_app 2 (ed_var 5)))
  (ssd_cons (sd_setF 3 sc_row_of.nd (ed_op vb_sub op_sub (ed_var 3) (ed_cm vc_comb cr_comb M.comb (ad_cons (ed_op vb_sub op_sub (ed_op vb_add op_add3 (ed_var 5) (ed_var 4)) ed_int) (ad_cons (ed_var 4) ad_nil)))))
  (ssd_cons (sd_setF 4 sc_row_of.nd (ed_op vb_sub op_sub (ed_var 4) ed_int))
  ssd_nil)))))
  (ssd_cons (sd_ret (ed_ct vc_tuple call_tuple_of B.tuple (ad_cons (ed_var 2) ad_nil)))
  ssd_nil)))))))
theorem ok_capacity (M : Mi mg) (F : FunD K "capacity" "capacity" (defArgs s_capacity) (defBody s_capacity) (defScope s_capacity) dvs kws f fd) (c_is_natural : Kf P w K mg base 2 "is_natural" (spD K 1 F_is_natural) []) : FnOk P w K mg base CX0 3 f fd ["width", "reach"] (spD K 2 F_capacity) :=
  fnD F sc_capacity rfl rfl fun cdv A outer s H E hr => (ssd_cons (sd_if (td_not (td_val (ed_call c_is_natural hr (by decide) dvs0 runF_len (ad_cons (ed_var 0) ad_nil))))
  (ssd_one sd_never)
  ssd_nil)
  (ssd_cons (sd_if (td_not (td_val (ed_call c_is_natural hr (by decide) dvs0 runF_len (ad_cons (ed_var 1) ad_nil))))
  (ssd_one sd_never)
  ssd_nil)
  (ssd_cons (sd_ret (ed_cm vc_comb cr_comb M.comb (ad_cons (ed_op vb_add op_add3 (ed_var 0) (ed_var 1)) (ad_cons (ed_var 1) ad_nil))))
  ssd_nil)))
theorem okx_merged (B : Bi mg) (XI : Xi K mg xcs xys xfs xtab) (XT_NotUsable : ExT P w K mg base "NotUsable" ["word", "at"]) (F : FunD K "merged" "merged" (defArgs s_merged) (defBody s_merged) (defScope s_merged) dvs kws f fd) (c_falling : Kf P w K mg base 1 "falling" (spD K 1 F_falling) []) (c_is_row : Kf P w K mg base 3 "is_row" (spD K 1 F_is_row) []) : FnOk P w K mg base (L2N.CX P w) 4 f fd ["rows"] (spX K mg 1 FX_merged) :=
  fnX F sc_merged rfl rfl fun cdv A outer s H E hr tk => (ssdx_cons (sdx_if (WD.td (wd_or (td_not (td_val (ed_isi .tuple (ed_var 0) B.isinstance B.tuple))) (wd_or1 (td_not (td_val (ed_cb vc_all (cr_all rfl) B.all (ad_cons (ed_lc (own := [("row", 1)]) rfl sc_merged.nd (id_seq (ed_var 0)) (by first | decide | with_unfolding_all rfl) (by decide) (fun _ _ _ _ _ => (gd_name (i := 1) sc_merged.nd rfl (by first | exact .inl rfl | exact .inr rfl))) (fun _ _ _ _ _ => ptd_nil) (fun _ _ _ _ _ => (ed_call c_is_row hr (by decide) dvs0 runF_len (ad_cons (ed_var 1) ad_nil)))) ad_nil)))))))
  (ssdx_one (sdx_raise XT_NotUsable hr (by decide) rfl tk (ad_cons ed_str (ad_cons (ed_neg ed_int) ad_nil))))
  ssdx_nil)
  (ssdx_cons (SD.x (sd_ret (ed_call c_falling hr (by decide) dvs0 runF_len (ad_cons (ed_lc2 (own := [("row", 1), ("member", 2)]) (vs1 := [2]) rfl sc_merged.nd (id_seq (ed_var 0)) (by first | decide | with_unfolding_all rfl) (by decide) (by decide) (by decide) (fun _ _ _ _ _ => (gd_name (i := 1) sc_merged.nd rfl (by first | exact .inl rfl | exact .inr rfl))) (fun _ _ _ _ _ => ptd_nil) (fun _ _ _ _ _ => (id_seq (ed_var 1))) (fun _ _ _ _ _ => (gd_name (i := 2) sc_merged.nd rfl (by first | exact .inl rfl | exact .inr rfl))) (fun _ _ _ _ _ => ptd_nil) (fun _ _ _ _ _ => (ed_var 2))) ad_nil))))
  ssdx_nil))
theorem ok_merged (B : Bi mg) (F : FunD K "merged" "merged" (defArgs s_merged) (defBody s_merged) (defScope s_merged) dvs kws f fd) (c_falling : Kf P w K mg base 1 "falling" (spD K 1 F_falling) []) (c_is_row : Kf P w K mg base 3 "is_row" (spD K 1 F_is_row) []) : FnOk P w K mg base CX0 4 f fd ["rows"] (spD K 1 F_merged) :=
  fnD F sc_merged rfl rfl fun cdv A outer s H E hr => (ssd_cons (sd_if (WD.td (wd_or (td_not (td_val (ed_isi .tuple (ed_var 0) B.isinstance B.tuple))) (wd_or1 (td_not (td_val (ed_cb vc_all (cr_all rfl) B.all (ad_cons (ed_lc (own := [("row", 1)]) rfl sc_merged.nd (id_seq (ed_var 0)) (by first | decide | with_unfolding_all rfl) (by decide) (fun _ _ _ _ _ => (gd_name (i := 1) sc_merged.nd rfl (by first | exact .inl rfl | exact .inr rfl))) (fun _ _ _ _ _ => ptd_nil) (fun _ _ _ _ _ => (ed_call c_is_row hr (by decide) dvs0 runF_len (ad_cons (ed_var 1) ad_nil)))) ad_nil)))))))
  (ssd_one sd_never)
  ssd_nil)
  (ssd_cons (sd_ret (ed_call c_falling hr (by decide) dvs0 runF_len (ad_cons (ed_lc2 (own := [("row", 1), ("member", 2)]) (vs1 := [2]) rfl sc_merged.nd (id_seq (ed_var 0)) (by first | decide | with_unfolding_all rfl) (by decide) (by decide) (by decide) (fun _ _ _ _ _ => (gd_name (i := 1) sc_merged.nd rfl (by first | exact .inl rfl | exact .inr rfl))) (fun _ _ _ _ _ => ptd_nil) (fun _ _ _ _ _ => (id_seq (ed_var 1))) (fun _ _ _ _ _ => (gd_name (i := 2) sc_merged.nd rfl (by first | exact .inl rfl | exact .inr rfl))) (fun _ _ _ _ _ => ptd_nil) (fun _ _ _ _ _ => (ed_var 2))) ad_nil)))
  ssd_nil))
theorem okx__check_row (B : Bi mg) (XI : Xi K mg xcs xys xfs xtab) (XT_NotUsable : ExT P w K mg base "NotUsable" ["word", "at"]) (F : FunD K "_check_row" "_check_row" (defArgs s__check_row) (defBody s__check_row) (defScope s__check_row) dvs kws f fd) (c_is_natural : Kf P w K mg base 2 "is_natural" (spD K 1 F_is_natural) []) (c_is_row : Kf P w K mg base 3 "is_row" (spD K 1 F_is_row) []) : FnOk P w K mg base (L2N.CX P w) 4 f fd ["width", "row"] (spX K mg 2 FX__check_row) :=
  fnX F sc__check_row rfl rfl fun cdv A outer s H E hr tk => (ssdx_cons (sdx_if (td_not (td_val (ed_call c_is_natural hr (by decide) dvs0 runF_len (ad_cons (ed_var 0) ad_nil))))
  (ssdx_one (sdx_raise XT_NotUsable hr (by decide) rfl tk (ad_cons ed_str (ad_cons (ed_neg ed_int) ad_nil))))
  ssdx_nil)
  (ssdx_cons (sdx_if (WD.td (wd_or (td_not (td_val (ed_call c_is_row hr (by decide) dvs0 runF_len (ad_cons (ed_var 1) ad_nil)))) (wd_or1 (td_cmp vq_gt (oq_gt hr.units) (nomark _) (ed_cb vc_len call_len_seq B.len (ad_cons (ed_var 1) ad_nil)) (ed_var 0)))))
  (ssdx_one (sdx_raise XT_NotUsable hr (by decide) rfl tk (ad_cons ed_str (ad_cons (ed_neg ed_int) ad_nil))))
  ssdx_nil)
  ssdx_nil))
theorem ok__check_row (B : Bi mg) (F : FunD K "_check_row" "_check_row" (defArgs s__check_row) (defBody s__check_row) (defScope s__check_row) dvs kws f fd) (c_is_natural : Kf P w K mg base 2 "is_natural" (spD K 1 F_is_natural) []) (c_is_row : Kf P w K mg base 3 "is_row" (spD K 1 F_is_row) []) : FnOk P w K mg base CX0 4 f fd ["width", "row"] (spD K 2 F__check_row) :=
  fnD F sc__check_row rfl rfl fun cdv A outer s H E hr => (ssd_cons (sd_if (td_not (td_val (ed_call c_is_natural hr (by decide) dvs0 runF_len (ad_cons (ed_var 0) ad_nil))))
  (ssd_one sd_never)
  ssd_nil)
  (ssd_cons (sd_if (WD.td (wd_or (td_not (td_val (ed_call c_is_row hr (by decide) dvs0 runF_len (ad_cons (ed_var 1) ad_nil)))) (wd_or1 (td_cmp vq_gt (oq_gt hr.units) (nomark _) (ed_cb vc_len call_len_seq B.len (ad_cons (ed_var 1) ad_nil)) (ed_var 0)))))
  (ssd_one sd_never)
  ssd_nil)
  ssd_nil))
theorem okx_number_of (B : Bi mg) (M : Mi mg) (F : FunD K "number_of" "number_of" (defArgs s_number_of) (defBody s_number_of) (defScope s_number_of) dvs kws f fd) (c_X_check_row : KfX P w K mg base 4 "_check_row" (spX K mg 2 FX__check_row) []) : FnOk P w K mg base (L2N.CX P w) 5 f fd ["width", "row"] (spX K mg 2 FX_number_of) :=
  fnX F sc_number_of rfl rfl fun cdv A outer s H E hr tk => (ssdx_cons (sdx_expr (edx_call c_X_check_row hr (by decide) dvs0 runX_len tk (ad_cons (ed_var 0) (ad_cons (ed_var 1) ad_nil))))
  (ssdx_cons (SD.x (sd_setF 2 sc_number_of.nd ed_int))
  (ssdx_cons (SD.x (sd_for rfl (passes_of rfl) (id_enum (ed_var 1) B.enumerate) (gd_tup rfl (gsd_cons (i := 3) sc_number_of.nd rfl (by first | exact .inl rfl | exact .inr rfl) (gsd_cons (i := 4) sc_number_of.nd rfl (by first | exact .inl rfl | exact .inr rfl) gsd_nil)))
  (ssd_one (sd_setF 2 sc_number_of.nd (ed_op vb_add op_add3 (ed_var 2) (ed_cm vc_comb cr_comb M.comb (ad_cons (ed_op vb_sub op_sub (ed_op vb_sub op_sub (ed_op vb_add op_add3 (ed_var 4) (ed_var 0)) (ed_var 3)) ed_int) (ad_cons (ed_op vb_sub op_sub (ed_var 0) (ed_var 3)) ad_nil))))))))
  (ssdx_cons (SD.x (sd_ret (ed_var 2)))
  ssdx_nil))))
theorem ok_number_of (B : Bi mg) (M : Mi mg) (F : FunD K "number_of" "number_of" (defArgs s_number_of) (defBody s_number_of) (defScope s_number_of) dvs kws f fd) (c__check_row : Kf P w K mg base 4 "_check_row" (spD K 2 F__check_row) []) : FnOk P w K mg base CX0 5 f fd ["width", "row"] (spD K 2 F_number_of) :=
  fnD F sc_number_of rfl rfl fun cdv A outer s H E hr => (ssd_cons (sd_expr (ed_call c__check_row hr (by decide) dvs0 runF_len (ad_cons (ed_var 0) (ad_cons (ed_var 1) ad_nil))))
  (ssd_cons (sd_setF 2 sc_number_of.nd ed_int)
  (ssd_cons (sd_for rfl PassesOwn.never (id_enum (ed_var 1) B.enumerate) (gd_tup rfl (gsd_cons (i := 3) sc_number_of.nd rfl (by first | exact .inl rfl | exact .inr rfl) (gsd_cons (i := 4) sc_number_of.nd rfl (by first | exact .inl rfl | exact .inr rfl) gsd_nil)))
  (ssd_one (sd_setF 2 sc_number_of.nd (ed_op vb_add op_add3 (ed_var 2) (ed_cm vc_comb cr_comb M.comb (ad_cons (ed_op vb_sub op_sub (ed_op vb_sub op_sub (ed_op vb_add op_add3 (ed_var 4) (ed_var 0)) (ed_var 3)) ed_int) (ad_cons (ed_op vb_sub op_sub (ed_var 0) (ed_var 3)) ad_nil)))))))
  (ssd_cons (sd_ret (ed_var 2))
  ssd_nil))))
theorem okx_joined (XI : Xi K mg xcs xys xfs xtab) (XT_NotUsable : ExT P w K mg base "NotUsable" ["word", "at"]) (F : FunD K "joined" "joined" (defArgs s_joined) (defBody s_joined) (defScope s_joined) dvs kws f fd) (c_Xmerged : KfX P w K mg base 4 "merged" (spX K mg 1 FX_merged) []) (c_Xnumber_of : KfX P w K mg base 5 "number_of" (spX K mg 2 FX_number_of) []) (c_is_natural : Kf P w K mg base 2 "is_natural" (spD K 1 F_is_natural) []) (c_is_number : Kf P w K mg base 2 "is_number" (spD K 1 F_is_number) []) (c_row_of : Kf P w K mg base 3 "row_of" (spD K 2 F_row_of) []) : FnOk P w K mg base (L2N.CX P w) 6 f fd ["width", "one", "other"] (spX K mg 3 FX_joined) :=
  fnX F sc_joined rfl rfl fun cdv A outer s H E hr tk => (ssdx_cons (sdx_if (td_not (td_val (ed_call c_is_natural hr (by decide) dvs0 runF_len (ad_cons (ed_var 0) ad_nil))))
  (ssdx_one (sdx_raise XT_NotUsable hr (by decide) rfl tk (ad_cons ed_str (ad_cons (ed_neg ed_int) ad_nil))))
  ssdx_nil)
  (ssdx_cons (sdx_if (td_not (td_val (ed_call c_is_number hr (by decide) dvs0 runF_len (ad_cons (ed_var 1) ad_nil))))
  (ssdx_one (sdx_raise XT_NotUsable hr (by decide) rfl tk (ad_cons ed_str (ad_cons (ed_neg ed_int) ad_nil))))
  ssdx_nil)
  (ssdx_cons (sdx_if (td_not (td_val (ed_call c_is_number hr (by decide) dvs0 runF_len (ad_cons (ed_var 2) ad_nil))))
  (ssdx_one (sdx_raise XT_NotUsable hr (by decide) rfl tk (ad_cons ed_str (ad_cons (ed_neg ed_int) ad_nil))))
  ssdx_nil)
  (ssdx_cons (sdx_set 3 sc_joined.nd (edx_call c_Xmerged hr (by decide) dvs0 runX_len tk (ad_cons (ed_tup (ad_cons (ed_call c_row_of hr (by decide) dvs0 runF_len (ad_cons (ed_var 0) (ad_cons (ed_var 1) ad_nil))) (ad_cons (ed_call c_row_of hr (by decide) dvs0 runF_len (ad_cons (ed_var 0) (ad_cons (ed_var 2) ad_nil))) ad_nil))) ad_nil)))
  (ssdx_cons (sdx_ret (edx_call c_Xnumber_of hr (by decide) dvs0 runX_len tk (ad_cons (ed_var 0) (ad_cons (ed_sl (ed_var 3) od_no (od_at (ed_var 0))) ad_nil))))
  ssdx_nil)))))
theorem ok_joined (F : FunD K "joined" "joined" (defArgs s_joined) (defBody s_joined) (defScope s_joined) dvs kws f fd) (c_is_natural : Kf P w K mg base 2 "is_natural" (spD K 1 F_is_natural) []) (c_is_number : Kf P w K mg base 2 "is_number" (spD K 1 F_is_number) []) (c_merged : Kf P w K mg base 4 "merged" (spD K 1 F_merged) []) (c_number_of : Kf P w K mg base 5 "number_of" (spD K 2 F_number_of) []) (c_row_of : Kf P w K mg base 3 "row_of" (spD K 2 F_row_of) []) : FnOk P w K mg base CX0 6 f fd ["width", "one", "other"] (spD K 3 F_joined) :=
  fnD F sc_joined rfl rfl fun cdv A outer s H E hr => (ssd_cons (sd_if (td_not (td_val (ed_call c_is_natural hr (by decide) dvs0 runF_len (ad_cons (ed_var 0) ad_nil))))
  (ssd_one sd_never)
  ssd_nil)
  (ssd_cons (sd_if (td_not (td_val (ed_call c_is_number hr (by decide) dvs0 runF_len (ad_cons (ed_var 1) ad_nil))))
  (ssd_one sd_never)
  ssd_nil)
  (ssd_cons (sd_if (td_not (td_val (ed_call c_is_number hr (by decide) dvs0 runF_len (ad_cons (ed_var 2) ad_nil))))
  (ssd_one sd_never)
  ssd_nil)
  (ssd_cons (sd_setF 3 sc_joined.nd (ed_call c_merged hr (by decide) dvs0 runF_len (ad_cons (ed_tup (ad_cons (ed_call c_row_of hr (by decide) dvs0 runF_len (ad_cons (ed_var 0) (ad_cons (ed_var 1) ad_nil))) (ad_cons (ed_call c_row_of hr (by decide) dvs0 runF_len (ad_cons (ed_var 0) (ad_cons (ed_var 2) ad_nil))) ad_nil))) ad_nil)))
  (ssd_cons (sd_ret (ed_call c_number_of hr (by decide) dvs0 runF_len (ad_cons (ed_var 0) (ad_cons (ed_sl (ed_var 3) od_no (od_at (ed_var 0))) ad_nil))))
  ssd_nil)))))
theorem okx_joined_all (B : Bi mg) (XI : Xi K mg xcs xys xfs xtab) (XT_NotUsable : ExT P w K mg base "NotUsable" ["word", "at"]) (F : FunD K "joined_all" "joined_all" (defArgs s_joined_all) (defBody s_joined_all) (defScope s_joined_all) dvs kws f fd) (c_Xmerged : KfX P w K mg base 4 "merged" (spX K mg 1 FX_merged) []) (c_Xnumber_of : KfX P w K mg base 5 "number_of" (spX K mg 2 FX_number_of) []) (c_is_natural : Kf P w K mg base 2 "is_natural" (spD K 1 F_is_natural) []) (c_is_number : Kf P w K mg base 2 "is_number" (spD K 1 F_is_number) []) (c_row_of : Kf P w K mg base 3 "row_of" (spD K 2 F_row_of) []) : FnOk P w K mg base (L2N.CX P w) 6 f fd ["width", "numbers"] (spX K mg 2 FX_joined_all) :=
  fnX F sc_joined_all rfl rfl fun cdv A outer s H E hr tk => (ssdx_cons (sdx_if (td_not (td_val (ed_call c_is_natural hr (by decide) dvs0 runF_len (ad_cons (ed_var 0) ad_nil))))
  (ssdx_one (sdx_raise XT_NotUsable hr (by decide) rfl tk (ad_cons ed_str (ad_cons (ed_neg ed_int) ad_nil))))
  ssdx_nil)
  (ssdx_cons (sdx_if (WD.td (wd_or (td_not (td_val (ed_isi .tuple (ed_var 1) B.isinstance B.tuple))) (wd_or1 (td_not (td_val (ed_cb vc_all (cr_all rfl) B.all (ad_cons (ed_lc (own := [("number", 3)]) rfl sc_joined_all.nd (id_seq (ed_var 1)) (by first | decide | with_unfolding_all rfl) (by decide) (fun _ _ _ _ _ => (gd_name (i := 3) sc_joined_all.nd rfl (by first | exact .inl rfl | exact .inr rfl))) (fun _ _ _ _ _ => ptd_nil) (fun _ _ _ _ _ => (ed_call c_is_number hr (by decide) dvs0 runF_len (ad_cons (ed_var 3) ad_nil)))) ad_nil)))))))
  (ssdx_one (sdx_raise XT_NotUsable hr (by decide) rfl tk (ad_cons ed_str (ad_cons (ed_neg ed_int) ad_nil))))
  ssdx_nil)
  (ssdx_cons (sdx_set 2 sc_joined_all.nd (edx_call c_Xmerged hr (by decide) dvs0 runX_len tk (ad_cons (ed_ct vc_tuple call_tuple_of B.tuple (ad_cons (ed_lc (own := [("number", 3)]) rfl sc_joined_all.nd (id_seq (ed_var 1)) (by first | decide | with_unfolding_all rfl) (by decide) (fun _ _ _ _ _ => (gd_name (i := 3) sc_joined_all.nd rfl (by first | exact .inl rfl | exact .inr rfl))) (fun _ _ _ _ _ => ptd_nil) (fun _ _ _ _ _ => (ed_call c_row_of hr (by decide) dvs0 runF_len (ad_cons (ed_var 0) (ad_cons (ed_var 3) ad_nil))))) ad_nil)) ad_nil)))
  (ssdx_cons (sdx_ret (edx_call c_Xnumber_of hr (by decide) dvs0 runX_len tk (ad_cons (ed_var 0) (ad_cons (ed_sl (ed_var 2) od_no (od_at (ed_var 0))) ad_nil))))
  ssdx_nil))))
theorem ok_joined_all (B : Bi mg) (F : FunD K "joined_all" "joined_all" (defArgs s_joined_all) (defBody s_joined_all) (defScope s_joined_all) dvs kws f fd) (c_is_natural : Kf P w K mg base 2 "is_natural" (spD K 1 F_is_natural) []) (c_is_number : Kf P w K mg base 2 "is_number" (spD K 1 F_is_number) []) (c_merged : Kf P w K mg base 4 "merged" (spD K 1 F_merged) []) (c_number_of : Kf P w K mg base 5 "number_of" (spD K 2 F_number_of) []) (c_row_of : Kf P w K mg base 3 "row_of" (spD K 2 F_row_of) []) : FnOk P w K mg base CX0 6 f fd ["width", "numbers"] (spD K 2 F_joined_all) :=
  fnD F sc_joined_all rfl rfl fun cdv A outer s H E hr => (ssd_cons (sd_if (td_not (td_val (ed_call c_is_natural hr (by decide) dvs0 runF_len (ad_cons (ed_var 0) ad_nil))))
  (ssd_one sd_never)
  ssd_nil)
  (ssd_cons (sd_if (WD.td (wd_or (td_not (td_val (ed_isi .tuple (ed_var 1) B.isinstance B.tuple))) (wd_or1 (td_not (td_val (ed_cb vc_all (cr_all rfl) B.all (ad_cons (ed_lc (own := [("number", 3)]) rfl sc_joined_all.nd (id_seq (ed_var 1)) (by first | decide | with_unfolding_all rfl) (by decide) (fun _ _ _ _ _ => (gd_name (i := 3) sc_joined_all.nd rfl (by first | exact .inl rfl | exact .inr rfl))) (fun _ _ _ _ _ => ptd_nil) (fun _ _ _ _ _ => (ed_call c_is_number hr (by decide) dvs0 runF_len (ad_cons (ed_var 3) ad_nil)))) ad_nil)))))))
  (ssd_one sd_never)
  ssd_nil)
  (ssd_cons (sd_setF 2 sc_joined_all.nd (ed_call c_merged hr (by decide) dvs0 runF_len (ad_cons (ed_ct vc_tuple call_tuple_of B.tuple (ad_cons (ed_lc (own := [("number", 3)]) rfl sc_joined_all.nd (id_seq (ed_var 1)) (by first | decide | with_unfolding_all rfl) (by decide) (fun _ _ _ _ _ => (gd_name (i := 3) sc_joined_all.nd rfl (by first | exact .inl rfl | exact .inr rfl))) (fun _ _ _ _ _ => ptd_nil) (fun _ _ _ _ _ => (ed_call c_row_of hr (by decide) dvs0 runF_len (ad_cons (ed_var 0) (ad_cons (ed_var 3) ad_nil))))) ad_nil)) ad_nil)))
  (ssd_cons (sd_ret (ed_call c_number_of hr (by decide) dvs0 runF_len (ad_cons (ed_var 0) (ad_cons (ed_sl (ed_var 2) od_no (od_at (ed_var 0))) ad_nil))))
  ssd_nil))))
theorem okx_joined_many (XI : Xi K mg xcs xys xfs xtab) (XT_NotUsable : ExT P w K mg base "NotUsable" ["word", "at"]) (F : FunD K "joined_many" "joined_many" (defArgs s_joined_many) (defBody s_joined_many) (defScope s_joined_many) dvs kws f fd) (c_Xmerged : KfX P w K mg base 4 "merged" (spX K mg 1 FX_merged) []) (c_Xnumber_of : KfX P w K mg base 5 "number_of" (spX K mg 2 FX_number_of) []) (c_Xrow_of : KfX P w K mg base 3 "row_of" (spX K mg 2 FX_row_of) []) (c_is_natural : Kf P w K mg base 2 "is_natural" (spD K 1 F_is_natural) []) (c_is_number : Kf P w K mg base 2 "is_number" (spD K 1 F_is_number) []) : FnOk P w K mg base (L2N.CX P w) 6 f fd ["width", "number", "many"] (spX K mg 3 FX_joined_many) :=
  fnX F sc_joined_many rfl rfl fun cdv A outer s H E hr tk => (ssdx_cons (sdx_if (td_not (td_val (ed_call c_is_natural hr (by decide) dvs0 runF_len (ad_cons (ed_var 0) ad_nil))))
  (ssdx_one (sdx_raise XT_NotUsable hr (by decide) rfl tk (ad_cons ed_str (ad_cons (ed_neg ed_int) ad_nil))))
  ssdx_nil)
  (ssdx_cons (sdx_if (td_not (td_val (ed_call c_is_number hr (by decide) dvs0 runF_len (ad_cons (ed_var 1) ad_nil))))
  (ssdx_one (sdx_raise XT_NotUsable hr (by decide) rfl tk (ad_cons ed_str (ad_cons (ed_neg ed_int) ad_nil))))
  ssdx_nil)
  (ssdx_cons (sdx_if (td_not (td_val (ed_call c_is_number hr (by decide) dvs0 runF_len (ad_cons (ed_var 2) ad_nil))))
  (ssdx_one (sdx_raise XT_NotUsable hr (by decide) rfl tk (ad_cons ed_str (ad_cons (ed_neg ed_int) ad_nil))))
  ssdx_nil)
  (ssdx_cons (SD.x (sd_setF 3 sc_joined_many.nd (ed_if (td_cmp vq_lt (oq_lt hr.units) (nomark _) (ed_var 2) (ed_var 0)) (ed_var 2) (ed_var 0))))
  (ssdx_cons (sdx_set 4 sc_joined_many.nd (edx_call c_Xrow_of hr (by decide) dvs0 runX_len tk (ad_cons (ed_var 0) (ad_cons (ed_var 1) ad_nil))))
  (ssdx_cons (sdx_set 5 sc_joined_many.nd (edx_call c_Xmerged hr (by decide) dvs0 runX_len tk (ad_cons (ed_op vb_repT op_repB (ed_tup (ad_cons (ed_var 4) ad_nil)) (ed_var 3)) ad_nil)))
  (ssdx_cons (sdx_ret (edx_call c_Xnumber_of hr (by decide) dvs0 runX_len tk (ad_cons (ed_var 0) (ad_cons (ed_sl (ed_var 5) od_no (od_at (ed_var 0))) ad_nil))))
  ssdx_nil)))))))
theorem ok_joined_many (F : FunD K "joined_many" "joined_many" (defArgs s_joined_many) (defBody s_joined_many) (defScope s_joined_many) dvs kws f fd) (c_is_natural : Kf P w K mg base 2 "is_natural" (spD K 1 F_is_natural) []) (c_is_number : Kf P w K mg base 2 "is_number" (spD K 1 F_is_number) []) (c_merged : Kf P w K mg base 4 "merged" (spD K 1 F_merged) []) (c_number_of : Kf P w K mg base 5 "number_of" (spD K 2 F_number_of) []) (c_row_of : Kf P w K mg base 3 "row_of" (spD K 2 F_row_of) []) : FnOk P w K mg base CX0 6 f fd ["width", "number", "many"] (spD K 3 F_joined_many) :=
  fnD F sc_joined_many rfl rfl fun cdv A outer s H E hr => (ssd_cons (sd_if (td_not (td_val (ed_call c_is_natural hr (by decide) dvs0 runF_len (ad_cons (ed_var 0) ad_nil))))
  (ssd_one sd_never)
  ssd_nil)
  (ssd_cons (sd_if (td_not (td_val (ed_call c_is_number hr (by decide) dvs0 runF_len (ad_cons (ed_var 1) ad_nil))))
  (ssd_one sd_never)
  ssd_nil)
  (ssd_cons (sd_if (td_not (td_val (ed_call c_is_number hr (by decide) dvs0 runF_len (ad_cons (ed_var 2) ad_nil))))
  (ssd_one sd_never)
  ssd_nil)
  (ssd_cons (sd_setF 3 sc_joined_many.nd (ed_if (td_cmp vq_lt (oq_lt hr.units) (nomark _) (ed_var 2) (ed_var 0)) (ed_var 2) (ed_var 0)))
  (ssd_cons (sd_setF 4 sc_joined_many.nd (ed_call c_row_of hr (by decide) dvs0 runF_len (ad_cons (ed_var 0) (ad_cons (ed_var 1) ad_nil))))
  (ssd_cons (sd_setF 5 sc_joined_many.nd (ed_call c_merged hr (by decide) dvs0 runF_len (ad_cons (ed_op vb_repT op_repB (ed_tup (ad_cons (ed_var 4) ad_nil)) (ed_var 3)) ad_nil)))
  (ssd_cons (sd_ret (ed_call c_number_of hr (by decide) dvs0 runF_len (ad_cons (ed_var 0) (ad_cons (ed_sl (ed_var 5) od_no (od_at (ed_var 0))) ad_nil))))
  ssd_nil)))))))
theorem ok__law_small (B : Bi mg) (F : FunD K "_law_small" "_law_small" (defArgs s__law_small) (defBody s__law_small) (defScope s__law_small) dvs kws f fd) (c__law_cut : Kf P w K mg base 1 "_law_cut" (spD K 2 F__law_cut) []) (c__law_is : Kf P w K mg base 1 "_law_is" (spD K 2 F__law_is) []) (c__law_listed : Kf P w K mg base 1 "_law_listed" (spD K 2 F__law_listed) []) (c_joined : Kf P w K mg base 6 "joined" (spD K 3 F_joined) []) (c_joined_all : Kf P w K mg base 6 "joined_all" (spD K 2 F_joined_all) []) (c_joined_all_kw0_1_0 : KfK P w K mg base 6 "joined_all" (spD K 2 F_joined_all) 0 ["numbers", "width"] [1, 0]) (c_joined_kw0_1_2_0 : KfK P w K mg base 6 "joined" (spD K 3 F_joined) 0 ["other", "width", "one"] [1, 2, 0]) (c_joined_many : Kf P w K mg base 6 "joined_many" (spD K 3 F_joined_many) []) : FnOk P w K mg base CX0 7 f fd ["_law_u", "_law_c", "_law_d"] (spD K 3 F__law_small) :=
  fnD F sc__law_small rfl rfl fun cdv A outer s H E hr => (ssd_cons (sd_setF 3 sc__law_small.nd (ed_call c__law_listed hr (by decide) dvs0 runF_len (ad_cons (ed_var 0) (ad_cons (ed_var 1) ad_nil))))
  (ssd_cons (sd_setF 4 sc__law_small.nd (ed_op vb_mod op_mod (ed_ix (ed_var 2) ed_int) (ed_cb vc_len call_len_seq B.len (ad_cons (ed_var 3) ad_nil))))
  (ssd_cons (sd_for rfl PassesOwn.never (id_rng1 (ed_cb vc_len call_len_seq B.len (ad_cons (ed_var 3) ad_nil)) B.range) (gd_name (i := 5) sc__law_small.nd rfl (by first | exact .inl rfl | exact .inr rfl))
  (ssd_cons (sd_setF 9 sc__law_small.nd (ed_index (u65 hr) (ed_var 3) (ed_call c__law_cut hr (by decide) dvs0 runF_len (ad_cons (ed_var 0) (ad_cons (ed_op vb_add op_add3 (ed_ix (ed_var 3) (ed_var 4)) (ed_ix (ed_var 3) (ed_var 5))) ad_nil)))))
  (ssd_cons (sd_if (WD.td (wd_or (td_not (td_val (ed_call c__law_is hr (by decide) dvs0 runF_len (ad_cons (ed_call c_joined hr (by decide) dvs0 runF_len (ad_cons (ed_var 0) (ad_cons (ed_var 4) (ad_cons (ed_var 5) ad_nil)))) (ad_cons (ed_var 9) ad_nil))))) (wd_or1 (td_not (td_val (ed_call c__law_is hr (by decide) dvs0 runF_len (ad_cons (ed_callK0 c_joined_kw0_1_2_0 hr (by decide) runF_len (kd_cons (ed_var 4) (kd_cons (ed_var 0) (kd_cons (ed_var 5) kd_nil))) (len_cons (len_cons (len_cons len_nil)))) (ad_cons (ed_var 9) ad_nil))))))))
  (ssd_one (sd_ret ed_bl))
  ssd_nil)
  ssd_nil)))
  (ssd_cons (sd_setF 6 sc__law_small.nd (ed_op vb_mod op_mod (ed_ix (ed_var 2) ed_int) ed_int))
  (ssd_cons (sd_if (td_cmp vb_eq (op_eqD hr.units) (nomark _) (ed_op vb_mod op_mod (ed_ix (ed_var 2) ed_int) ed_int) ed_int)
  (ssd_one (sd_setF 6 sc__law_small.nd ed_int))
  ssd_nil)
  (ssd_cons (by first | exact sd_setLcF 7 (own := [("_law_k", 12)]) rfl sc__law_small.nd (id_rng1 (ed_var 6) B.range) (by first | decide | with_unfolding_all rfl) (by decide) (fun _ _ _ _ _ => (gd_name (i := 12) sc__law_small.nd rfl (by first | exact .inl rfl | exact .inr rfl))) (fun _ _ _ _ _ => ptd_nil) (fun _ _ _ _ _ => (ed_op vb_mod op_mod (ed_op vb_mulT op_mulT (ed_ix (ed_var 2) (ed_op vb_add op_add3 ed_int (ed_op vb_mod op_mod (ed_var 12) ed_int))) (ed_op vb_add op_add3 (ed_var 12) ed_int)) (ed_cb vc_len call_len_seq B.len (ad_cons (ed_var 3) ad_nil)))) | exact sd_setF 7 sc__law_small.nd (ed_lc (own := [("_law_k", 12)]) rfl sc__law_small.nd (id_rng1 (ed_var 6) B.range) (by first | decide | with_unfolding_all rfl) (by decide) (fun _ _ _ _ _ => (gd_name (i := 12) sc__law_small.nd rfl (by first | exact .inl rfl | exact .inr rfl))) (fun _ _ _ _ _ => ptd_nil) (fun _ _ _ _ _ => (ed_op vb_mod op_mod (ed_op vb_mulT op_mulT (ed_ix (ed_var 2) (ed_op vb_add op_add3 ed_int (ed_op vb_mod op_mod (ed_var 12) ed_int))) (ed_op vb_add op_add3 (ed_var 12) ed_int)) (ed_cb vc_len call_len_seq B.len (ad_cons (ed_var 3) ad_nil))))))
  (ssd_cons (sd_setF 8 sc__law_small.nd (ed_tup ad_nil))
  (ssd_cons (sd_for rfl PassesOwn.never (id_seq (ed_var 7)) (gd_name (i := 5) sc__law_small.nd rfl (by first | exact .inl rfl | exact .inr rfl))
  (ssd_one (sd_setF 8 sc__law_small.nd (ed_op vb_add op_add3 (ed_var 8) (ed_ix (ed_var 3) (ed_var 5))))))
  (ssd_cons (sd_setF 9 sc__law_small.nd (ed_index (u65 hr) (ed_var 3) (ed_call c__law_cut hr (by decide) dvs0 runF_len (ad_cons (ed_var 0) (ad_cons (ed_var 8) ad_nil)))))
  (ssd_cons (sd_if (td_not (td_val (ed_call c__law_is hr (by decide) dvs0 runF_len (ad_cons (ed_call c_joined_all hr (by decide) dvs0 runF_len (ad_cons (ed_var 0) (ad_cons (ed_ct vc_tuple call_tuple_of B.tuple (ad_cons (ed_var 7) ad_nil)) ad_nil))) (ad_cons (ed_var 9) ad_nil)))))
  (ssd_one (sd_ret ed_bl))
  ssd_nil)
  (ssd_cons (sd_if (td_not (td_val (ed_call c__law_is hr (by decide) dvs0 runF_len (ad_cons (ed_callK0 c_joined_all_kw0_1_0 hr (by decide) runF_len (kd_cons (ed_ct vc_tuple call_tuple_of B.tuple (ad_cons (ed_rvs (ed_var 7)) ad_nil)) (kd_cons (ed_var 0) kd_nil)) (len_cons (len_cons len_nil))) (ad_cons (ed_var 9) ad_nil)))))
  (ssd_one (sd_ret ed_bl))
  ssd_nil)
  (ssd_cons (sd_setF 10 sc__law_small.nd ed_int)
  (ssd_cons (sd_for rfl PassesOwn.never (id_seq (ed_var 7)) (gd_name (i := 5) sc__law_small.nd rfl (by first | exact .inl rfl | exact .inr rfl))
  (ssd_one (sd_setF 10 sc__law_small.nd (ed_call c_joined hr (by decide) dvs0 runF_len (ad_cons (ed_var 0) (ad_cons (ed_var 5) (ad_cons (ed_var 10) ad_nil)))))))
  (ssd_cons (sd_if (WD.td (wd_or (td_not (td_val (ed_call c__law_is hr (by decide) dvs0 runF_len (ad_cons (ed_var 10) (ad_cons (ed_var 9) ad_nil))))) (wd_or (td_not (td_val (ed_call c__law_is hr (by decide) dvs0 runF_len (ad_cons (ed_call c_joined_all hr (by decide) dvs0 runF_len (ad_cons (ed_var 0) (ad_cons (ed_tup ad_nil) ad_nil))) (ad_cons ed_int ad_nil))))) (wd_or1 (td_not (td_val (ed_call c__law_is hr (by decide) dvs0 runF_len (ad_cons (ed_call c_joined_all hr (by decide) dvs0 runF_len (ad_cons (ed_var 0) (ad_cons (ed_tup (ad_cons (ed_var 4) ad_nil)) ad_nil))) (ad_cons (ed_var 4) ad_nil)))))))))
  (ssd_one (sd_ret ed_bl))
  ssd_nil)
  (ssd_cons (sd_for rfl PassesOwn.never (id_rng1 (ed_op vb_add op_add3 (ed_var 0) ed_int) B.range) (gd_name (i := 11) sc__law_small.nd rfl (by first | exact .inl rfl | exact .inr rfl))
  (ssd_cons (sd_setF 9 sc__law_small.nd (ed_index (u65 hr) (ed_var 3) (ed_call c__law_cut hr (by decide) dvs0 runF_len (ad_cons (ed_var 0) (ad_cons (ed_op vb_mulT op_mulT (ed_ix (ed_var 3) (ed_var 4)) (ed_var 11)) ad_nil)))))
  (ssd_cons (sd_if (WD.td (wd_or (td_not (td_val (ed_call c__law_is hr (by decide) dvs0 runF_len (ad_cons (ed_call c_joined_many hr (by decide) dvs0 runF_len (ad_cons (ed_var 0) (ad_cons (ed_var 4) (ad_cons (ed_var 11) ad_nil)))) (ad_cons (ed_var 9) ad_nil))))) (wd_or1 (td_not (td_val (ed_call c__law_is hr (by decide) dvs0 runF_len (ad_cons (ed_call c_joined_all hr (by decide) dvs0 runF_len (ad_cons (ed_var 0) (ad_cons (ed_op vb_repT op_repB (ed_tup (ad_cons (ed_var 4) ad_nil)) (ed_var 11)) ad_nil))) (ad_cons (ed_var 9) ad_nil))))))))
  (ssd_one (sd_ret ed_bl))
  ssd_nil)
  ssd_nil)))
  (ssd_cons (sd_ret ed_bl)
  ssd_nil))))))))))))))))
theorem ok__law_far (B : Bi mg) (F : FunD K "_law_far" "_law_far" (defArgs s__law_far) (defBody s__law_far) (defScope s__law_far) dvs kws f fd) (c__law_after : Kf P w K mg base 1 "_law_after" (spD K 2 F__law_after) []) (c__law_bound : Kf P w K mg base 1 "_law_bound" (spD K 1 F__law_bound) []) (c__law_cut : Kf P w K mg base 1 "_law_cut" (spD K 2 F__law_cut) []) (c__law_great : Kf P w K mg base 1 "_law_great" (spD K 2 F__law_great) []) (c__law_is : Kf P w K mg base 1 "_law_is" (spD K 2 F__law_is) []) (c__law_members : Kf P w K mg base 2 "_law_members" (spD K 4 F__law_members) []) (c__law_place : Kf P w K mg base 2 "_law_place" (spD K 2 F__law_place) []) (c__law_product : Kf P w K mg base 1 "_law_product" (spD K 2 F__law_product) []) (c_capacity : Kf P w K mg base 3 "capacity" (spD K 2 F_capacity) []) (c_joined : Kf P w K mg base 6 "joined" (spD K 3 F_joined) []) (c_joined_all : Kf P w K mg base 6 "joined_all" (spD K 2 F_joined_all) []) (c_joined_kw0_2_0_1 : KfK P w K mg base 6 "joined" (spD K 3 F_joined) 0 ["one", "other", "width"] [2, 0, 1]) (c_joined_many : Kf P w K mg base 6 "joined_many" (spD K 3 F_joined_many) []) (c_joined_many_kw0_2_1_0 : KfK P w K mg base 6 "joined_many" (spD K 3 F_joined_many) 0 ["many", "number", "width"] [2, 1, 0]) : FnOk P w K mg base CX0 7 f fd ["_law_u", "_law_d"] (spD K 2 F__law_far) :=
  fnD F sc__law_far rfl rfl fun cdv A outer s H E hr => (ssd_cons (by first | exact sd_setLcF 2 (own := [("_law_k", 15)]) rfl sc__law_far.nd (id_rng1 ed_int B.range) (by first | decide | with_unfolding_all rfl) (by decide) (fun _ _ _ _ _ => (gd_name (i := 15) sc__law_far.nd rfl (by first | exact .inl rfl | exact .inr rfl))) (fun _ _ _ _ _ => ptd_nil) (fun _ _ _ _ _ => (ed_op vb_add op_add3 ed_int (ed_op vb_mod op_mod (ed_ct vc_int call_int1 B.int (ad_cons (ed_call c__law_great hr (by decide) dvs0 runF_len (ad_cons (ed_var 1) (ad_cons (ed_op vb_add op_add3 ed_int (ed_op vb_mulT op_mulT ed_int (ed_var 15))) ad_nil))) ad_nil)) (ed_call c__law_bound hr (by decide) dvs0 runF_len (ad_cons (ed_var 0) ad_nil))))) | exact sd_setF 2 sc__law_far.nd (ed_lc (own := [("_law_k", 15)]) rfl sc__law_far.nd (id_rng1 ed_int B.range) (by first | decide | with_unfolding_all rfl) (by decide) (fun _ _ _ _ _ => (gd_name (i := 15) sc__law_far.nd rfl (by first | exact .inl rfl | exact .inr rfl))) (fun _ _ _ _ _ => ptd_nil) (fun _ _ _ _ _ => (ed_op vb_add op_add3 ed_int (ed_op vb_mod op_mod (ed_ct vc_int call_int1 B.int (ad_cons (ed_call c__law_great hr (by decide) dvs0 runF_len (ad_cons (ed_var 1) (ad_cons (ed_op vb_add op_add3 ed_int (ed_op vb_mulT op_mulT ed_int (ed_var 15))) ad_nil))) ad_nil)) (ed_call c__law_bound hr (by decide) dvs0 runF_len (ad_cons (ed_var 0) ad_nil)))))))
  (ssd_cons (sd_setF 3 sc__law_far.nd (ed_call c__law_members hr (by decide) dvs0 runF_len (ad_cons (ed_var 0) (ad_cons (ed_var 2) (ad_cons (ed_var 1) (ad_cons ed_int ad_nil))))))
  (ssd_cons (sd_setF 4 sc__law_far.nd (ed_call c__law_members hr (by decide) dvs0 runF_len (ad_cons (ed_var 0) (ad_cons (ed_var 2) (ad_cons (ed_var 1) (ad_cons ed_int ad_nil))))))
  (ssd_cons (sd_setF 5 sc__law_far.nd (ed_call c__law_members hr (by decide) dvs0 runF_len (ad_cons (ed_var 0) (ad_cons (ed_var 2) (ad_cons (ed_var 1) (ad_cons ed_int ad_nil))))))
  (ssd_cons (sd_setF 6 sc__law_far.nd (ed_call c__law_place hr (by decide) dvs0 runF_len (ad_cons (ed_var 0) (ad_cons (ed_var 3) ad_nil))))
  (ssd_cons (sd_setF 7 sc__law_far.nd (ed_call c__law_place hr (by decide) dvs0 runF_len (ad_cons (ed_var 0) (ad_cons (ed_var 4) ad_nil))))
  (ssd_cons (sd_setF 8 sc__law_far.nd (ed_call c__law_place hr (by decide) dvs0 runF_len (ad_cons (ed_var 0) (ad_cons (ed_var 5) ad_nil))))
  (ssd_cons (sd_setF 9 sc__law_far.nd (ed_call c__law_place hr (by decide) dvs0 runF_len (ad_cons (ed_var 0) (ad_cons (ed_call c__law_cut hr (by decide) dvs0 runF_len (ad_cons (ed_var 0) (ad_cons (ed_op vb_add op_add3 (ed_var 3) (ed_var 4)) ad_nil))) ad_nil))))
  (ssd_cons (sd_if (WD.td (wd_or (td_not (td_val (ed_call c__law_is hr (by decide) dvs0 runF_len (ad_cons (ed_call c_joined hr (by decide) dvs0 runF_len (ad_cons (ed_var 0) (ad_cons (ed_var 6) (ad_cons (ed_var 7) ad_nil)))) (ad_cons (ed_var 9) ad_nil))))) (wd_or1 (td_not (td_val (ed_call c__law_is hr (by decide) dvs0 runF_len (ad_cons (ed_call c_joined hr (by decide) dvs0 runF_len (ad_cons (ed_var 0) (ad_cons (ed_var 7) (ad_cons (ed_var 6) ad_nil)))) (ad_cons (ed_var 9) ad_nil))))))))
  (ssd_one (sd_ret ed_bl))
  ssd_nil)
  (ssd_cons (sd_setF 10 sc__law_far.nd (ed_call c__law_place hr (by decide) dvs0 runF_len (ad_cons (ed_var 0) (ad_cons (ed_call c__law_cut hr (by decide) dvs0 runF_len (ad_cons (ed_var 0) (ad_cons (ed_op vb_add op_add3 (ed_op vb_add op_add3 (ed_var 3) (ed_var 4)) (ed_var 5)) ad_nil))) ad_nil))))
  (ssd_cons (sd_if (WD.td (wd_or (td_not (td_val (ed_call c__law_is hr (by decide) dvs0 runF_len (ad_cons (ed_call c_joined hr (by decide) dvs0 runF_len (ad_cons (ed_var 0) (ad_cons (ed_call c_joined hr (by decide) dvs0 runF_len (ad_cons (ed_var 0) (ad_cons (ed_var 6) (ad_cons (ed_var 7) ad_nil)))) (ad_cons (ed_var 8) ad_nil)))) (ad_cons (ed_var 10) ad_nil))))) (wd_or1 (td_not (td_val (ed_call c__law_is hr (by decide) dvs0 runF_len (ad_cons (ed_call c_joined hr (by decide) dvs0 runF_len (ad_cons (ed_var 0) (ad_cons (ed_var 6) (ad_cons (ed_call c_joined hr (by decide) dvs0 runF_len (ad_cons (ed_var 0) (ad_cons (ed_var 7) (ad_cons (ed_var 8) ad_nil)))) ad_nil)))) (ad_cons (ed_var 10) ad_nil))))))))
  (ssd_one (sd_ret ed_bl))
  ssd_nil)
  (ssd_cons (sd_if (WD.td (wd_or (td_not (td_val (ed_call c__law_is hr (by decide) dvs0 runF_len (ad_cons (ed_call c_joined_all hr (by decide) dvs0 runF_len (ad_cons (ed_var 0) (ad_cons (ed_tup (ad_cons (ed_var 8) (ad_cons (ed_var 6) (ad_cons ed_int (ad_cons (ed_var 7) ad_nil))))) ad_nil))) (ad_cons (ed_var 10) ad_nil))))) (wd_or1 (td_not (td_val (ed_call c__law_is hr (by decide) dvs0 runF_len (ad_cons (ed_call c_joined_all hr (by decide) dvs0 runF_len (ad_cons (ed_var 0) (ad_cons (ed_tup (ad_cons (ed_var 7) (ad_cons (ed_var 8) (ad_cons (ed_var 6) ad_nil)))) ad_nil))) (ad_cons (ed_var 10) ad_nil))))))))
  (ssd_one (sd_ret ed_bl))
  ssd_nil)
  (ssd_cons (sd_setF 11 sc__law_far.nd (ed_call c__law_place hr (by decide) dvs0 runF_len (ad_cons (ed_var 0) (ad_cons (ed_call c__law_cut hr (by decide) dvs0 runF_len (ad_cons (ed_var 0) (ad_cons (ed_op vb_add op_add3 (ed_call c__law_after hr (by decide) dvs0 runF_len (ad_cons (ed_var 0) (ad_cons (ed_var 3) ad_nil))) (ed_var 4)) ad_nil))) ad_nil))))
  (ssd_cons (sd_if (td_not (td_val (ed_call c__law_is hr (by decide) dvs0 runF_len (ad_cons (ed_callK0 c_joined_kw0_2_0_1 hr (by decide) runF_len (kd_cons (ed_op vb_add op_add3 (ed_var 6) ed_int) (kd_cons (ed_var 7) (kd_cons (ed_var 0) kd_nil))) (len_cons (len_cons (len_cons len_nil)))) (ad_cons (ed_var 11) ad_nil)))))
  (ssd_one (sd_ret ed_bl))
  ssd_nil)
  (ssd_cons (sd_if (WD.td (wd_or (td_not (td_val (ed_call c__law_is hr (by decide) dvs0 runF_len (ad_cons (ed_call c_joined hr (by decide) dvs0 runF_len (ad_cons (ed_var 0) (ad_cons (ed_var 6) (ad_cons ed_int ad_nil)))) (ad_cons (ed_var 6) ad_nil))))) (wd_or1 (td_not (td_val (ed_call c__law_is hr (by decide) dvs0 runF_len (ad_cons (ed_call c_joined hr (by decide) dvs0 runF_len (ad_cons (ed_var 0) (ad_cons ed_int (ad_cons (ed_var 7) ad_nil)))) (ad_cons (ed_var 7) ad_nil))))))))
  (ssd_one (sd_ret ed_bl))
  ssd_nil)
  (ssd_cons (sd_setF 11 sc__law_far.nd (ed_call c__law_place hr (by decide) dvs0 runF_len (ad_cons (ed_var 0) (ad_cons (ed_call c__law_cut hr (by decide) dvs0 runF_len (ad_cons (ed_var 0) (ad_cons (ed_op vb_mulT op_mulT (ed_var 4) (ed_var 0)) ad_nil))) ad_nil))))
  (ssd_cons (sd_setF 12 sc__law_far.nd (ed_op vb_add op_add3 (ed_var 0) (ed_call c__law_great hr (by decide) dvs0 runF_len (ad_cons (ed_var 1) (ad_cons ed_int ad_nil)))))
  (ssd_cons (sd_if (WD.td (wd_or (td_not (td_val (ed_call c__law_is hr (by decide) dvs0 runF_len (ad_cons (ed_call c_joined_many hr (by decide) dvs0 runF_len (ad_cons (ed_var 0) (ad_cons (ed_var 7) (ad_cons (ed_var 12) ad_nil)))) (ad_cons (ed_var 11) ad_nil))))) (wd_or1 (td_not (td_val (ed_call c__law_is hr (by decide) dvs0 runF_len (ad_cons (ed_callK0 c_joined_many_kw0_2_1_0 hr (by decide) runF_len (kd_cons (ed_var 0) (kd_cons (ed_var 7) (kd_cons (ed_var 0) kd_nil))) (len_cons (len_cons (len_cons len_nil)))) (ad_cons (ed_var 11) ad_nil))))))))
  (ssd_one (sd_ret ed_bl))
  ssd_nil)
  (ssd_cons (sd_setF 13 sc__law_far.nd (ed_op vb_mod op_mod (ed_ix (ed_var 1) ed_int) (ed_op vb_add op_add3 (ed_var 0) ed_int)))
  (ssd_cons (sd_setF 11 sc__law_far.nd (ed_call c__law_place hr (by decide) dvs0 runF_len (ad_cons (ed_var 0) (ad_cons (ed_call c__law_cut hr (by decide) dvs0 runF_len (ad_cons (ed_var 0) (ad_cons (ed_op vb_mulT op_mulT (ed_var 5) (ed_var 13)) ad_nil))) ad_nil))))
  (ssd_cons (sd_if (td_not (td_val (ed_call c__law_is hr (by decide) dvs0 runF_len (ad_cons (ed_call c_joined_many hr (by decide) dvs0 runF_len (ad_cons (ed_var 0) (ad_cons (ed_var 8) (ad_cons (ed_var 13) ad_nil)))) (ad_cons (ed_var 11) ad_nil)))))
  (ssd_one (sd_ret ed_bl))
  ssd_nil)
  (ssd_cons (sd_setF 14 sc__law_far.nd (ed_call c_capacity hr (by decide) dvs0 runF_len (ad_cons (ed_var 0) (ad_cons (ed_op vb_add op_add3 ed_int (ed_op vb_mod op_mod (ed_ix (ed_var 1) ed_int) ed_int)) ad_nil))))
  (ssd_cons (sd_ret (ed_and (ed_cmp vb_eq (op_eqD hr.units) (nomark _) (ed_cmp vq_lt (oq_lt hr.units) (nomark _) (ed_var 9) (ed_var 14)) (ed_and (ed_cmp vq_lt (oq_lt hr.units) (nomark _) (ed_var 6) (ed_var 14)) (ed_one (ed_cmp vq_lt (oq_lt hr.units) (nomark _) (ed_var 7) (ed_var 14))))) (ed_one (ed_cmp vb_eq (op_eqD hr.units) (nomark _) (ed_var 14) (ed_call c__law_product hr (by decide) dvs0 runF_len (ad_cons (ed_op vb_add op_add3 (ed_op vb_add op_add3 (ed_var 0) ed_int) (ed_op vb_mod op_mod (ed_ix (ed_var 1) ed_int) ed_int)) (ad_cons (ed_var 0) ad_nil)))))))
  ssd_nil)))))))))))))))))))))))
theorem okx__law_ask (F : FunD K "_law_ask" "_law_ask" (defArgs s__law_ask) (defBody s__law_ask) (defScope s__law_ask) dvs kws f fd) (c_Xjoined : KfX P w K mg base 6 "joined" (spX K mg 3 FX_joined) []) (c_Xjoined_all : KfX P w K mg base 6 "joined_all" (spX K mg 2 FX_joined_all) []) (c_Xjoined_many : KfX P w K mg base 6 "joined_many" (spX K mg 3 FX_joined_many) []) : FnOk P w K mg base (L2N.CX P w) 7 f fd ["_law_which", "_law_a"] (spX K mg 2 FX__law_ask) :=
  fnX F sc__law_ask rfl rfl fun cdv A outer s H E hr tk => (ssdx_cons (sdx_if (td_cmp vb_eq (op_eqD hr.units) (nomark _) (ed_var 0) ed_str)
  (ssdx_one (sdx_ret (edx_call c_Xjoined hr (by decide) dvs0 runX_len tk (ad_cons (ed_ix (ed_var 1) ed_int) (ad_cons (ed_ix (ed_var 1) ed_int) (ad_cons (ed_ix (ed_var 1) ed_int) ad_nil))))))
  ssdx_nil)
  (ssdx_cons (sdx_if (td_cmp vb_eq (op_eqD hr.units) (nomark _) (ed_var 0) ed_str)
  (ssdx_one (sdx_ret (edx_call c_Xjoined_all hr (by decide) dvs0 runX_len tk (ad_cons (ed_ix (ed_var 1) ed_int) (ad_cons (ed_ix (ed_var 1) ed_int) ad_nil)))))
  ssdx_nil)
  (ssdx_cons (sdx_ret (edx_call c_Xjoined_many hr (by decide) dvs0 runX_len tk (ad_cons (ed_ix (ed_var 1) ed_int) (ad_cons (ed_ix (ed_var 1) ed_int) (ad_cons (ed_ix (ed_var 1) ed_int) ad_nil)))))
  ssdx_nil)))
theorem ok__law_ask (F : FunD K "_law_ask" "_law_ask" (defArgs s__law_ask) (defBody s__law_ask) (defScope s__law_ask) dvs kws f fd) (c_joined : Kf P w K mg base 6 "joined" (spD K 3 F_joined) []) (c_joined_all : Kf P w K mg base 6 "joined_all" (spD K 2 F_joined_all) []) (c_joined_many : Kf P w K mg base 6 "joined_many" (spD K 3 F_joined_many) []) : FnOk P w K mg base CX0 7 f fd ["_law_which", "_law_a"] (spD K 2 F__law_ask) :=
  fnD F sc__law_ask rfl rfl fun cdv A outer s H E hr => (ssd_cons (sd_if (td_cmp vb_eq (op_eqD hr.units) (nomark _) (ed_var 0) ed_str)
  (ssd_one (sd_ret (ed_call c_joined hr (by decide) dvs0 runF_len (ad_cons (ed_ix (ed_var 1) ed_int) (ad_cons (ed_ix (ed_var 1) ed_int) (ad_cons (ed_ix (ed_var 1) ed_int) ad_nil))))))
  ssd_nil)
  (ssd_cons (sd_if (td_cmp vb_eq (op_eqD hr.units) (nomark _) (ed_var 0) ed_str)
  (ssd_one (sd_ret (ed_call c_joined_all hr (by decide) dvs0 runF_len (ad_cons (ed_ix (ed_var 1) ed_int) (ad_cons (ed_ix (ed_var 1) ed_int) ad_nil)))))
  ssd_nil)
  (ssd_cons (sd_ret (ed_call c_joined_many hr (by decide) dvs0 runF_len (ad_cons (ed_ix (ed_var 1) ed_int) (ad_cons (ed_ix (ed_var 1) ed_int) (ad_cons (ed_ix (ed_var 1) ed_int) ad_nil)))))
  ssd_nil)))
theorem ok__law_word (XI : Xi K mg xcs xys xfs xtab) (F : FunD K "_law_word" "_law_word" (defArgs s__law_word) (defBody s__law_word) (defScope s__law_word) dvs kws f fd) (c_H_law_is : KfH P w K mg base 1 "_law_is" (spD K 2 F__law_is)) (c_X_law_ask : KfX P w K mg base 7 "_law_ask" (spX K mg 2 FX__law_ask) []) : FnOk P w K mg base CX0 8 f fd ["_law_which", "_law_a"] (spD K 2 F__law_word) :=
  fnD F sc__law_word rfl rfl fun cdv A outer s H E hr => (ssd_cons (sd_tryT rfl rfl sc__law_word.nd (i := 2) (XI.sub "NotUsable") (fun W2 pn xe tk hp =>
  (ssdx_one (sdx_expr (edx_call c_X_law_ask hr (by decide) dvs0 runX_len tk (ad_cons (ed_var 0) (ad_cons (ed_var 1) ad_nil)))))) (fun k C a dd oe pn hk hz hf =>
  (ssd_cons (sd_if (td_not (td_val (ed_callH c_H_law_is (room_suite hr) (hot_suite hz hf) (by decide) runF_len (ad_cons (ed_fld (XI.fld "at") hk hz.zc hf) (ad_cons (ed_neg ed_int) ad_nil)))))
  (ssd_one (sd_ret ed_str))
  ssd_nil)
  (ssd_cons (sd_ret (ed_fld (XI.fld "word") hk hz.zc hf))
  ssd_nil))))
  (ssd_cons (sd_ret ed_str)
  ssd_nil))
theorem ok__law_refusals (F : FunD K "_law_refusals" "_law_refusals" (defArgs s__law_refusals) (defBody s__law_refusals) (defScope s__law_refusals) dvs kws f fd) (c__law_ask : Kf P w K mg base 7 "_law_ask" (spD K 2 F__law_ask) []) (c__law_is : Kf P w K mg base 1 "_law_is" (spD K 2 F__law_is) []) (c__law_word : Kf P w K mg base 8 "_law_word" (spD K 2 F__law_word) []) : FnOk P w K mg base CX0 9 f fd ["_law_odd", "_law_u"] (spD K 2 F__law_refusals) :=
  fnD F sc__law_refusals rfl rfl fun cdv A outer s H E hr => (ssd_cons (sd_setF 2 sc__law_refusals.nd (ed_lst (ad_cons (ed_tup (ad_cons ed_str (ad_cons (ed_tup (ad_cons (ed_var 0) (ad_cons (ed_var 0) (ad_cons (ed_var 0) ad_nil)))) (ad_cons ed_str ad_nil)))) (ad_cons (ed_tup (ad_cons ed_str (ad_cons (ed_tup (ad_cons (ed_var 1) (ad_cons (ed_var 0) (ad_cons (ed_var 0) ad_nil)))) (ad_cons ed_str ad_nil)))) (ad_cons (ed_tup (ad_cons ed_str (ad_cons (ed_tup (ad_cons (ed_var 1) (ad_cons ed_int (ad_cons (ed_var 0) ad_nil)))) (ad_cons ed_str ad_nil)))) ad_nil)))))
  (ssd_cons (sd_setF 2 sc__law_refusals.nd (ed_op vb_add op_add3 (ed_var 2) (ed_lst (ad_cons (ed_tup (ad_cons ed_str (ad_cons (ed_tup (ad_cons ed_int (ad_cons ed_int (ad_cons ed_int ad_nil)))) (ad_cons ed_str ad_nil)))) (ad_cons (ed_tup (ad_cons ed_str (ad_cons (ed_tup (ad_cons ed_bl (ad_cons ed_int (ad_cons ed_int ad_nil)))) (ad_cons ed_str ad_nil)))) (ad_cons (ed_tup (ad_cons ed_str (ad_cons (ed_tup (ad_cons (ed_var 1) (ad_cons (ed_neg ed_int) (ad_cons ed_bl ad_nil)))) (ad_cons ed_str ad_nil)))) ad_nil))))))
  (ssd_cons (sd_setF 2 sc__law_refusals.nd (ed_op vb_add op_add3 (ed_var 2) (ed_lst (ad_cons (ed_tup (ad_cons ed_str (ad_cons (ed_tup (ad_cons (ed_var 1) (ad_cons ed_bl (ad_cons ed_int ad_nil)))) (ad_cons ed_str ad_nil)))) (ad_cons (ed_tup (ad_cons ed_str (ad_cons (ed_tup (ad_cons (ed_var 1) (ad_cons ed_int (ad_cons (ed_neg ed_int) ad_nil)))) (ad_cons ed_str ad_nil)))) (ad_cons (ed_tup (ad_cons ed_str (ad_cons (ed_tup (ad_cons (ed_var 1) (ad_cons ed_int (ad_cons ed_bl ad_nil)))) (ad_cons ed_str ad_nil)))) ad_nil))))))
  (ssd_cons (sd_setF 2 sc__law_refusals.nd (ed_op vb_add op_add3 (ed_var 2) (ed_lst (ad_cons (ed_tup (ad_cons ed_str (ad_cons (ed_tup (ad_cons (ed_var 0) (ad_cons (ed_var 0) ad_nil))) (ad_cons ed_str ad_nil)))) (ad_cons (ed_tup (ad_cons ed_str (ad_cons (ed_tup (ad_cons ed_int (ad_cons (ed_tup ad_nil) ad_nil))) (ad_cons ed_str ad_nil)))) ad_nil)))))
  (ssd_cons (sd_setF 2 sc__law_refusals.nd (ed_op vb_add op_add3 (ed_var 2) (ed_lst (ad_cons (ed_tup (ad_cons ed_str (ad_cons (ed_tup (ad_cons (ed_var 1) (ad_cons ed_int ad_nil))) (ad_cons ed_str ad_nil)))) ad_nil))))
  (ssd_cons (sd_setF 2 sc__law_refusals.nd (ed_op vb_add op_add3 (ed_var 2) (ed_lst (ad_cons (ed_tup (ad_cons ed_str (ad_cons (ed_tup (ad_cons (ed_var 1) (ad_cons (ed_lst (ad_cons ed_int (ad_cons ed_int ad_nil))) ad_nil))) (ad_cons ed_str ad_nil)))) (ad_cons (ed_tup (ad_cons ed_str (ad_cons (ed_tup (ad_cons (ed_var 1) (ad_cons (ed_tup (ad_cons ed_int (ad_cons (ed_neg ed_int) ad_nil))) ad_nil))) (ad_cons ed_str ad_nil)))) ad_nil)))))
  (ssd_cons (sd_setF 2 sc__law_refusals.nd (ed_op vb_add op_add3 (ed_var 2) (ed_lst (ad_cons (ed_tup (ad_cons ed_str (ad_cons (ed_tup (ad_cons (ed_var 1) (ad_cons (ed_tup (ad_cons ed_int (ad_cons (ed_var 0) (ad_cons ed_int ad_nil)))) ad_nil))) (ad_cons ed_str ad_nil)))) (ad_cons (ed_tup (ad_cons ed_str (ad_cons (ed_tup (ad_cons (ed_var 1) (ad_cons (ed_tup (ad_cons ed_bl ad_nil)) ad_nil))) (ad_cons ed_str ad_nil)))) ad_nil)))))
  (ssd_cons (sd_setF 2 sc__law_refusals.nd (ed_op vb_add op_add3 (ed_var 2) (ed_lst (ad_cons (ed_tup (ad_cons ed_str (ad_cons (ed_tup (ad_cons (ed_var 1) (ad_cons ed_non ad_nil))) (ad_cons ed_str ad_nil)))) (ad_cons (ed_tup (ad_cons ed_str (ad_cons (ed_tup (ad_cons (ed_var 1) (ad_cons (ed_tup (ad_cons ed_int (ad_cons (ed_tup (ad_cons ed_int ad_nil)) ad_nil))) ad_nil))) (ad_cons ed_str ad_nil)))) ad_nil)))))
  (ssd_cons (sd_setF 2 sc__law_refusals.nd (ed_op vb_add op_add3 (ed_var 2) (ed_lst (ad_cons (ed_tup (ad_cons ed_str (ad_cons (ed_tup (ad_cons (ed_var 0) (ad_cons (ed_var 0) (ad_cons (ed_var 0) ad_nil)))) (ad_cons ed_str ad_nil)))) (ad_cons (ed_tup (ad_cons ed_str (ad_cons (ed_tup (ad_cons (ed_neg ed_int) (ad_cons ed_int (ad_cons ed_int ad_nil)))) (ad_cons ed_str ad_nil)))) ad_nil)))))
  (ssd_cons (sd_setF 2 sc__law_refusals.nd (ed_op vb_add op_add3 (ed_var 2) (ed_lst (ad_cons (ed_tup (ad_cons ed_str (ad_cons (ed_tup (ad_cons (ed_var 1) (ad_cons (ed_var 0) (ad_cons (ed_var 0) ad_nil)))) (ad_cons ed_str ad_nil)))) (ad_cons (ed_tup (ad_cons ed_str (ad_cons (ed_tup (ad_cons (ed_var 1) (ad_cons (ed_neg ed_int) (ad_cons ed_int ad_nil)))) (ad_cons ed_str ad_nil)))) ad_nil)))))
  (ssd_cons (sd_setF 2 sc__law_refusals.nd (ed_op vb_add op_add3 (ed_var 2) (ed_lst (ad_cons (ed_tup (ad_cons ed_str (ad_cons (ed_tup (ad_cons (ed_var 1) (ad_cons ed_int (ad_cons (ed_var 0) ad_nil)))) (ad_cons ed_str ad_nil)))) (ad_cons (ed_tup (ad_cons ed_str (ad_cons (ed_tup (ad_cons (ed_var 1) (ad_cons ed_int (ad_cons (ed_neg ed_int) ad_nil)))) (ad_cons ed_str ad_nil)))) ad_nil)))))
  (ssd_cons (sd_setF 2 sc__law_refusals.nd (ed_op vb_add op_add3 (ed_var 2) (ed_lst (ad_cons (ed_tup (ad_cons ed_str (ad_cons (ed_tup (ad_cons (ed_var 1) (ad_cons ed_int (ad_cons ed_bl ad_nil)))) (ad_cons ed_str ad_nil)))) (ad_cons (ed_tup (ad_cons ed_str (ad_cons (ed_tup (ad_cons ed_bl (ad_cons ed_int (ad_cons ed_int ad_nil)))) (ad_cons ed_str ad_nil)))) ad_nil)))))
  (ssd_cons (sd_for rfl PassesOwn.never (id_seq (ed_var 2)) (gd_name (i := 3) sc__law_refusals.nd rfl (by first | exact .inl rfl | exact .inr rfl))
  (ssd_one (sd_if (td_cmp vb_ne (op_neD hr.units) (nomark _) (ed_call c__law_word hr (by decide) dvs0 runF_len (ad_cons (ed_ix (ed_var 3) ed_int) (ad_cons (ed_ix (ed_var 3) ed_int) ad_nil))) (ed_ix (ed_var 3) ed_int))
  (ssd_one (sd_ret ed_bl))
  ssd_nil)))
  (ssd_cons (sd_setF 4 sc__law_refusals.nd (ed_lst (ad_cons (ed_tup (ad_cons ed_str (ad_cons (ed_tup (ad_cons (ed_var 1) (ad_cons ed_int (ad_cons ed_int ad_nil)))) (ad_cons ed_int ad_nil)))) (ad_cons (ed_tup (ad_cons ed_str (ad_cons (ed_tup (ad_cons (ed_var 1) (ad_cons ed_int (ad_cons (ed_var 1) ad_nil)))) (ad_cons (ed_var 1) ad_nil)))) (ad_cons (ed_tup (ad_cons ed_str (ad_cons (ed_tup (ad_cons ed_int (ad_cons ed_int (ad_cons ed_int ad_nil)))) (ad_cons ed_int ad_nil)))) (ad_cons (ed_tup (ad_cons ed_str (ad_cons (ed_tup (ad_cons (ed_var 1) (ad_cons (ed_tup ad_nil) ad_nil))) (ad_cons ed_int ad_nil)))) ad_nil))))))
  (ssd_cons (sd_setF 4 sc__law_refusals.nd (ed_op vb_add op_add3 (ed_var 4) (ed_lst (ad_cons (ed_tup (ad_cons ed_str (ad_cons (ed_tup (ad_cons (ed_var 1) (ad_cons (ed_tup (ad_cons ed_int (ad_cons ed_int (ad_cons ed_int ad_nil)))) ad_nil))) (ad_cons ed_int ad_nil)))) (ad_cons (ed_tup (ad_cons ed_str (ad_cons (ed_tup (ad_cons (ed_var 1) (ad_cons (ed_tup (ad_cons ed_int ad_nil)) ad_nil))) (ad_cons ed_int ad_nil)))) (ad_cons (ed_tup (ad_cons ed_str (ad_cons (ed_tup (ad_cons (ed_var 1) (ad_cons ed_int (ad_cons ed_int ad_nil)))) (ad_cons ed_int ad_nil)))) ad_nil))))))
  (ssd_cons (sd_setF 4 sc__law_refusals.nd (ed_op vb_add op_add3 (ed_var 4) (ed_lst (ad_cons (ed_tup (ad_cons ed_str (ad_cons (ed_tup (ad_cons (ed_var 1) (ad_cons ed_int (ad_cons ed_int ad_nil)))) (ad_cons ed_int ad_nil)))) (ad_cons (ed_tup (ad_cons ed_str (ad_cons (ed_tup (ad_cons (ed_var 1) (ad_cons ed_int (ad_cons ed_int ad_nil)))) (ad_cons ed_int ad_nil)))) (ad_cons (ed_tup (ad_cons ed_str (ad_cons (ed_tup (ad_cons ed_int (ad_cons ed_int (ad_cons ed_int ad_nil)))) (ad_cons ed_int ad_nil)))) ad_nil))))))
  (ssd_cons (sd_for rfl PassesOwn.never (id_seq (ed_var 4)) (gd_name (i := 3) sc__law_refusals.nd rfl (by first | exact .inl rfl | exact .inr rfl))
  (ssd_one (sd_if (WD.td (wd_or (td_cmp vb_ne (op_neD hr.units) (nomark _) (ed_call c__law_word hr (by decide) dvs0 runF_len (ad_cons (ed_ix (ed_var 3) ed_int) (ad_cons (ed_ix (ed_var 3) ed_int) ad_nil))) ed_str) (wd_or1 (td_not (td_val (ed_call c__law_is hr (by decide) dvs0 runF_len (ad_cons (ed_call c__law_ask hr (by decide) dvs0 runF_len (ad_cons (ed_ix (ed_var 3) ed_int) (ad_cons (ed_ix (ed_var 3) ed_int) ad_nil))) (ad_cons (ed_ix (ed_var 3) ed_int) ad_nil))))))))
  (ssd_one (sd_ret ed_bl))
  ssd_nil)))
  (ssd_cons (sd_ret ed_bl)
  ssd_nil))))))))))))))))))
theorem ok_law (F : FunD K "law" "law" (defArgs s_law) (defBody s_law) (defScope s_law) dvs kws f fd) (c__law_draws : Kf P w K mg base 2 "_law_draws" (spD K 2 F__law_draws) []) (c__law_far : Kf P w K mg base 7 "_law_far" (spD K 2 F__law_far) []) (c__law_refusals : Kf P w K mg base 9 "_law_refusals" (spD K 2 F__law_refusals) []) (c__law_small : Kf P w K mg base 7 "_law_small" (spD K 3 F__law_small) []) : FnOk P w K mg base CX0 10 f fd ["_law_script"] (spD K 1 F_law) :=
  fnD F sc_law rfl rfl fun cdv A outer s H E hr => (ssd_cons (sd_setF 1 sc_law.nd (ed_call c__law_draws hr (by decide) dvs0 runF_len (ad_cons (ed_var 0) (ad_cons ed_int ad_nil))))
  (ssd_cons (sd_setF 2 sc_law.nd (ed_lst (ad_cons (ed_tup (ad_cons ed_int (ad_cons ed_int ad_nil))) (ad_cons (ed_tup (ad_cons ed_int (ad_cons ed_int ad_nil))) (ad_cons (ed_tup (ad_cons ed_int (ad_cons ed_int ad_nil))) (ad_cons (ed_tup (ad_cons ed_int (ad_cons ed_int ad_nil))) (ad_cons (ed_tup (ad_cons ed_int (ad_cons ed_int ad_nil))) (ad_cons (ed_tup (ad_cons ed_int (ad_cons ed_int ad_nil))) (ad_cons (ed_tup (ad_cons ed_int (ad_cons ed_int ad_nil))) (ad_cons (ed_tup (ad_cons ed_int (ad_cons ed_int ad_nil))) ad_nil))))))))))
  (ssd_cons (sd_setF 3 sc_law.nd (ed_ix (ed_var 2) (ed_op vb_mod op_mod (ed_ix (ed_var 1) ed_int) ed_int)))
  (ssd_cons (sd_if (td_not (td_val (ed_call c__law_small hr (by decide) dvs0 runF_len (ad_cons (ed_ix (ed_var 3) ed_int) (ad_cons (ed_ix (ed_var 3) ed_int) (ad_cons (ed_var 1) ad_nil))))))
  (ssd_one (sd_ret ed_bl))
  ssd_nil)
  (ssd_cons (sd_setF 4 sc_law.nd (ed_op vb_add op_add3 ed_int (ed_op vb_mod op_mod (ed_ix (ed_var 1) ed_int) ed_int)))
  (ssd_cons (sd_if (td_cmp vq_gt (oq_gt hr.units) (nomark _) (ed_op vb_mod op_mod (ed_ix (ed_var 1) ed_int) ed_int) ed_int)
  (ssd_one (sd_setF 4 sc_law.nd (ed_op vb_add op_add3 ed_int (ed_op vb_mod op_mod (ed_ix (ed_var 1) ed_int) ed_int))))
  ssd_nil)
  (ssd_cons (sd_if (td_not (td_val (ed_call c__law_far hr (by decide) dvs0 runF_len (ad_cons (ed_var 4) (ad_cons (ed_var 1) ad_nil)))))
  (ssd_one (sd_ret ed_bl))
  ssd_nil)
  (ssd_cons (sd_setF 5 sc_law.nd (ed_lst (ad_cons ed_non (ad_cons ed_str (ad_cons (ed_lst ad_nil) (ad_cons (ed_neg ed_int) (ad_cons (ed_tup (ad_cons ed_int ad_nil)) (ad_cons ed_bl (ad_cons ed_bl (ad_cons (ed_neg (ed_op vb_pow op_pow ed_int ed_int)) ad_nil))))))))))
  (ssd_cons (sd_ret (ed_call c__law_refusals hr (by decide) dvs0 runF_len (ad_cons (ed_ix (ed_var 5) (ed_op vb_mod op_mod (ed_ix (ed_var 1) ed_int) ed_int)) (ad_cons (ed_op vb_add op_add3 ed_int (ed_op vb_mod op_mod (ed_ix (ed_var 1) ed_int) ed_int)) ad_nil))))
  ssd_nil)))))))))
end
end K19
namespace K19
open PySem PySem.Spec PyProof.Rows L2 DL
noncomputable section
def f_is_integer (thing : Int) : Option Bool :=
  some (true && (!false))
def f_falling (members : (List Int)) : Option (List Int) :=
  some (downI members)
def f_greatest_member_L1 (few : Int) (rest : Int) (high_ : Int) : Option (Int) :=
  (some (high_ * (2 : Int))).bind fun high2 => some high2
def f_greatest_member_L1c (few : Int) (rest : Int) (high_ : Int) : Option Bool :=
  (combI ((high_ + few) - (1 : Int)) few).bind fun t3 => some (decide (t3 ≤ rest))
def f_greatest_member_L2 (few : Int) (rest : Int) (high_ : Int) (low_ : Int) : Option (Int × Int) :=
  (some ((low_ + high_) / (2 : Int))).bind fun middle10 => (combI ((middle10 + few) - (1 : Int)) few).bind fun t11 => if (decide (t11 ≤ rest)) = true then (some middle10).bind fun low13 => some (high_, low13) else (some middle10).bind fun high14 => some (high14, low_)
def f_greatest_member_L2c (few : Int) (rest : Int) (high_ : Int) (low_ : Int) : Option Bool :=
  some (decide ((1 : Int) < (high_ - low_)))
def f_greatest_member (few : Int) (rest : Int) : Option Int :=
  (some (2 : Int)).bind fun high1 => (whS (fun (high_ : Int) => f_greatest_member_L1c few rest high_) (fun (high_ : Int) => f_greatest_member_L1 few rest high_) 300 high1).bind fun high7 => (some (high7 / (2 : Int))).bind fun low8 => (whS (fun (s_ : Int × Int) => f_greatest_member_L2c few rest s_.1 s_.2) (fun (s_ : Int × Int) => f_greatest_member_L2 few rest s_.1 s_.2) 300 (high7, low8)).bind fun s21 => some s21.2
def f_w_mixed (cell : Int) (k_ : Int) : Option Int :=
  (mulO ((cell % (998244353 : Int)) + (1237 : Int)) ((k_ * (6151 : Int)) + (30011 : Int))).bind fun x_2 => (some ((((x_2 % (2147483629 : Int)) / (19 : Int)) + (k_ * (86453 : Int))) * (40487 : Int))).bind fun x_3 => some (((x_3 % (1999999943 : Int)) / (23 : Int)) % (983 : Int))
def f_w_is (got : PyData) (due : PyData) : Option Bool :=
  (isD .int got).bind fun t1 => (andO t1 ((isD .bool got).bind fun t2 => (andO (!t2) ((bD (p_eq got due)).bind fun t3 => some t3)).bind fun t4 => some t4)).bind fun t5 => some t5
def f_w_great_L1 (d_ : (List Int)) (k_ : Int) (x_1 : Int) (told_ : Int) : Option (Int) :=
  (atI d_ ((k_ + (1 : Int)) + x_1)).bind fun t5 => (some ((told_ * (983 : Int)) + t5)).bind fun told6 => some told6
def f_w_great (d_ : (List Int)) (k_ : Int) : Option Int :=
  (some (0 : Int)).bind fun told1 => (atI d_ k_).bind fun t2 => (rng1O ((1 : Int) + (t2 % (10 : Int)))).bind fun is3 => (forS (fun x_1 (told_ : Int) => f_w_great_L1 d_ k_ x_1 told_) is3 told1).bind fun told11 => some told11
def f_w_product_L1 (a_ : Int) (b_ : Int) (x_1 : Int) (told_ : Int) : Option (Int) :=
  (mulO told_ (a_ - x_1)).bind fun t4 => (divO t4 (x_1 + (1 : Int))).bind fun told6 => some told6
def f_w_product (a_ : Int) (b_ : Int) : Option Int :=
  (some (1 : Int)).bind fun told1 => (rng1O b_).bind fun is2 => (forS (fun x_1 (told_ : Int) => f_w_product_L1 a_ b_ x_1 told_) is2 told1).bind fun told12 => (mulO told12 (if (decide (b_ ≤ a_)) = true then (1 : Int) else 0)).bind fun t14 => some t14
def f_w_cut (u_ : Int) (members : (List Int)) : Option (List Int) :=
  some (cutD (downI members) none (some u_))
def f_w_after (u_ : Int) (members : (List Int)) : Option (List Int) :=
  if (decide ((members.length : Int) < u_)) = true then (catO members [(1 : Int)]).bind fun t2 => some t2 else (atI members ((members.length : Int) - (1 : Int))).bind fun least4 => (lcC (fun x5 => some (decide (least4 < x5))) (fun x5 => some x5) members).bind fun t6 => (catO t6 [(least4 + (1 : Int))]).bind fun t7 => some t7
def f_w_listed_L3 (u_ : Int) (c_ : Int) (longest : (List (List Int))) (told : (List (List Int))) (old : (List Int)) (last : Int) (x_3 : Int) (further_ : (List (List Int))) : Option ((List (List Int))) :=
  (catO old [x_3]).bind fun t19 => (appO further_ t19).bind fun further20 => some further20
def f_w_listed_J1 (u_ : Int) (c_ : Int) (longest : (List (List Int))) (told : (List (List Int))) (further : (List (List Int))) (old : (List Int)) (last_ : Int) : Option ((List (List Int))) :=
  (rngO (1 : Int) (last_ + (1 : Int))).bind fun is17 => (forS (fun x_3 (further_ : (List (List Int))) => f_w_listed_L3 u_ c_ longest told old last_ x_3 further_) is17 further).bind fun further25 => some further25
def f_w_listed_L2 (u_ : Int) (c_ : Int) (longest : (List (List Int))) (told : (List (List Int))) (x_2 : (List Int)) (further_ : (List (List Int))) : Option ((List (List Int))) :=
  (some c_).bind fun last13 => if (decide ((0 : Int) < (x_2.length : Int))) = true then (atI x_2 ((x_2.length : Int) - (1 : Int))).bind fun last35 => f_w_listed_J1 u_ c_ longest told further_ x_2 last35 else f_w_listed_J1 u_ c_ longest told further_ x_2 last13
def f_w_listed_L1 (u_ : Int) (c_ : Int) (x_1 : Int) (longest_ : (List (List Int))) (told_ : (List (List Int))) : Option ((List (List Int)) × (List (List Int))) :=
  (some []).bind fun further9 => (forS (fun x_2 (further_ : (List (List Int))) => f_w_listed_L2 u_ c_ longest_ told_ x_2 further_) longest_ further9).bind fun further53 => (some further53).bind fun longest57 => (catO told_ further53).bind fun told59 => some (longest57, told59)
def f_w_listed (u_ : Int) (c_ : Int) : Option (List (List Int)) :=
  (some [[]]).bind fun longest1 => (some [[]]).bind fun told2 => (rng1O u_).bind fun is3 => (forS (fun x_1 (s_ : (List (List Int)) × (List (List Int))) => f_w_listed_L1 u_ c_ x_1 s_.1 s_.2) is3 (longest1, told2)).bind fun s90 => some (upT s90.2)
def f_w_bound (u_ : Int) : Option Int :=
  (powO (10 : Int) (29 : Int)).bind fun t1 => (powO (10 : Int) (14 : Int)).bind fun t2 => (powO (10 : Int) (9 : Int)).bind fun t3 => (powO (10 : Int) (7 : Int)).bind fun t4 => (powO (10 : Int) (5 : Int)).bind fun t5 => (powO (10 : Int) (4 : Int)).bind fun t6 => (powO (10 : Int) (4 : Int)).bind fun t7 => (some [t1, t2, t3, t4, t5, t6, t7, (1000 : Int), (1000 : Int), (100 : Int), (100 : Int), (100 : Int), (100 : Int), (100 : Int)]).bind fun bounds8 => if (decide ((bounds8.length : Int) < u_)) = true then some (20 : Int) else (atI bounds8 (u_ - (1 : Int))).bind fun t10 => some t10
def f_is_number (thing : Int) : Option Bool :=
  (f_is_integer thing).bind fun t1 => some (t1 && (decide ((0 : Int) ≤ thing)))
def f_is_natural (thing : Int) : Option Bool :=
  (f_is_integer thing).bind fun t1 => some (t1 && (decide ((1 : Int) ≤ thing)))
def f_w_draws_L2 (script : (List Int)) (length : Int) (x_2 : Int) (told_ : (List Int)) (left_ : Int) : Option ((List Int) × Int) :=
  if (decide ((0 : Int) < left_)) = true then (appO told_ (left_ % (983 : Int))).bind fun told13 => (some (left_ / (983 : Int))).bind fun left14 => some (told13, left14) else some (told_, left_)
def f_w_draws_L1 (script : (List Int)) (length : Int) (x_1 : Int) (told_ : (List Int)) : Option ((List Int)) :=
  (some (if x_1 < 0 then -x_1 else x_1)).bind fun left5 => (powO (10 : Int) (18 : Int)).bind fun t6 => if (decide (left5 < t6)) = true then (f_w_mixed x_1 (2 : Int)).bind fun t8 => (appO told_ t8).bind fun told9 => some told9 else (rng1O (60 : Int)).bind fun is10 => (forS (fun x_2 (s_ : (List Int) × Int) => f_w_draws_L2 script length x_2 s_.1 s_.2) is10 (told_, left5)).bind fun s19 => some s19.1
def f_w_draws_L3 (script : (List Int)) (length : Int) (x_3 : Int) (told_ : (List Int)) : Option ((List Int)) :=
  (modO x_3 (min (63 : Int) (script.length : Int))).bind fun t44 => (atI script t44).bind fun t45 => (f_w_mixed t45 (x_3 + (7 : Int))).bind fun t46 => (appO told_ t46).bind fun told47 => some told47
def f_w_draws (script : (List Int)) (length : Int) : Option (List Int) :=
  (some []).bind fun told1 => (forS (fun x_1 (told_ : (List Int)) => f_w_draws_L1 script length x_1 told_) (cutD script none (some (63 : Int))) told1).bind fun told37 => if (decide ((0 : Int) < (script.length : Int))) = true then (rng1O length).bind fun is42 => (forS (fun x_3 (told_ : (List Int)) => f_w_draws_L3 script length x_3 told_) is42 told37).bind fun told54 => (repO [(0 : Int)] length).bind fun t56 => (catO told54 t56).bind fun told58 => some (cutD told58 none (some length)) else (repO [(0 : Int)] length).bind fun t59 => (catO told37 t59).bind fun told61 => some (cutD told61 none (some length))
def f_w_place_L1 (u_ : Int) (members : (List Int)) (x_1 : Int) (told_ : Int) : Option (Int) :=
  (atI members x_1).bind fun t4 => (f_w_product (((t4 + u_) - (1 : Int)) - x_1) (u_ - x_1)).bind fun t5 => (some (told_ + t5)).bind fun told6 => some told6
def f_w_place (u_ : Int) (members : (List Int)) : Option Int :=
  (some (0 : Int)).bind fun told1 => (rng1O (members.length : Int)).bind fun is2 => (forS (fun x_1 (told_ : Int) => f_w_place_L1 u_ members x_1 told_) is2 told1).bind fun told12 => some told12
def f_w_members_L1 (u_ : Int) (pool : (List Int)) (d_ : (List Int)) (k_ : Int) (x_1 : Int) (told_ : (List Int)) : Option ((List Int)) :=
  (atI pool x_1).bind fun t4 => (atI d_ (k_ + x_1)).bind fun t5 => (repTO [t4] (t5 % (4 : Int))).bind fun t6 => (catO told_ t6).bind fun told8 => some told8
def f_w_members (u_ : Int) (pool : (List Int)) (d_ : (List Int)) (k_ : Int) : Option (List Int) :=
  (some []).bind fun told1 => (rng1O (4 : Int)).bind fun is2 => (forS (fun x_1 (told_ : (List Int)) => f_w_members_L1 u_ pool d_ k_ x_1 told_) is2 told1).bind fun told16 => (atI d_ (k_ + (4 : Int))).bind fun t18 => if (decide ((t18 % (4 : Int)) = (0 : Int))) = true then (atI d_ (k_ + (5 : Int))).bind fun t20 => (atI pool (t20 % (4 : Int))).bind fun t21 => (repTO [t21] u_).bind fun t22 => (catO told16 t22).bind fun told24 => (f_w_cut u_ told24).bind fun t25 => some t25 else (f_w_cut u_ told16).bind fun t26 => some t26
def f_is_row (thing : (List Int)) : Option Bool :=
  if (!true) = true then some false else (lcC (fun x2 => some true) (fun x2 => (f_is_natural x2).bind fun t3 => some t3) thing).bind fun t4 => if (!(t4.all id)) = true then some false else (rng1O ((thing.length : Int) - (1 : Int))).bind fun is6 => (lcC (fun x7 => some true) (fun x7 => (atI thing x7).bind fun t8 => (atI thing (x7 + (1 : Int))).bind fun t9 => some (decide (t9 ≤ t8))) is6).bind fun t10 => some (t10.all id)
def f_row_of_L1 (members_ : (List Int)) (rest_ : Int) (few_ : Int) : Option ((List Int) × Int × Int) :=
  (f_greatest_member few_ rest_).bind fun member10 => (appO members_ member10).bind fun members11 => (combI ((member10 + few_) - (1 : Int)) few_).bind fun t12 => (some (rest_ - t12)).bind fun rest13 => (some (few_ - (1 : Int))).bind fun few14 => some (members11, rest13, few14)
def f_row_of_L1c (members_ : (List Int)) (rest_ : Int) (few_ : Int) : Option Bool :=
  some (decide ((0 : Int) < rest_))
def f_row_of (width : Int) (number : Int) : Option (List Int) :=
  (f_is_natural width).bind fun t1 => if (!t1) = true then none else (f_is_number number).bind fun t3 => if (!t3) = true then none else (some []).bind fun members5 => (some number).bind fun rest6 => (some width).bind fun few7 => (whS (fun (s_ : (List Int) × Int × Int) => f_row_of_L1c s_.1 s_.2.1 s_.2.2) (fun (s_ : (List Int) × Int × Int) => f_row_of_L1 s_.1 s_.2.1 s_.2.2) (rest6.toNat + 1) (members5, rest6, few7)).bind fun s22 => some s22.1
def f_capacity (width : Int) (reach : Int) : Option Int :=
  (f_is_natural width).bind fun t1 => if (!t1) = true then none else (f_is_natural reach).bind fun t3 => if (!t3) = true then none else (combI (width + reach) reach).bind fun t5 => some t5
def f_merged (rows : (List (List Int))) : Option (List Int) :=
  (orO (!true) ((lcC (fun x1 => some true) (fun x1 => (f_is_row x1).bind fun t2 => some t2) rows).bind fun t3 => some (!(t3.all id)))).bind fun t4 => if t4 = true then none else (lc2C (fun x6 => some true) (fun x6 => some x6) (fun x6 y7 => some true) (fun x6 y7 => some y7) rows).bind fun t8 => (f_falling t8).bind fun t9 => some t9
def f_check_row (width : Int) (row : (List Int)) : Option Unit :=
  (f_is_natural width).bind fun t1 => if (!t1) = true then none else (f_is_row row).bind fun t3 => if ((!t3) || (decide (width < (row.length : Int)))) = true then none else some ()
def f_number_of_L1 (width : Int) (row : (List Int)) (x_1 : (Int × Int)) (number_ : Int) : Option (Int) :=
  (combI (((x_1.2 + width) - x_1.1) - (1 : Int)) (width - x_1.1)).bind fun t5 => (some (number_ + t5)).bind fun number6 => some number6
def f_number_of (width : Int) (row : (List Int)) : Option Int :=
  (f_check_row width row).bind fun t1 => (some (0 : Int)).bind fun number2 => (forS (fun x_1 (number_ : Int) => f_number_of_L1 width row x_1 number_) (enumL row) number2).bind fun number12 => some number12
def f_joined (width : Int) (one : Int) (other : Int) : Option Int :=
  (f_is_natural width).bind fun t1 => if (!t1) = true then none else (f_is_number one).bind fun t3 => if (!t3) = true then none else (f_is_number other).bind fun t5 => if (!t5) = true then none else (f_row_of width one).bind fun t7 => (f_row_of width other).bind fun t8 => (f_merged [t7, t8]).bind fun row10 => (f_number_of width (cutD row10 none (some width))).bind fun t11 => some t11
def f_joined_all (width : Int) (numbers : (List Int)) : Option Int :=
  (f_is_natural width).bind fun t1 => if (!t1) = true then none else (orO (!true) ((lcC (fun x3 => some true) (fun x3 => (f_is_number x3).bind fun t4 => some t4) numbers).bind fun t5 => some (!(t5.all id)))).bind fun t6 => if t6 = true then none else (lcC (fun x8 => some true) (fun x8 => (f_row_of width x8).bind fun t9 => some t9) numbers).bind fun t10 => (f_merged t10).bind fun row12 => (f_number_of width (cutD row12 none (some width))).bind fun t13 => some t13
def f_joined_many (width : Int) (number : Int) (many : Int) : Option Int :=
  (f_is_natural width).bind fun t1 => if (!t1) = true then none else (f_is_number number).bind fun t3 => if (!t3) = true then none else (f_is_number many).bind fun t5 => if (!t5) = true then none else (if (decide (many < width)) = true then some many else some width).bind fun copies8 => (f_row_of width number).bind fun own10 => (repTO [own10] copies8).bind fun t11 => (f_merged t11).bind fun row13 => (f_number_of width (cutD row13 none (some width))).bind fun t14 => some t14
def f_w_small_L1 (u_ : Int) (d_ : (List Int)) (x_ : Int) (x_1 : Int) (listed_ : (List (List Int))) : Option (Lp ((List (List Int))) Bool) :=
  (atI listed_ x_).bind fun t9 => (atI listed_ x_1).bind fun t10 => (catO t9 t10).bind fun t11 => (f_w_cut u_ t11).bind fun t12 => (idxO listed_ t12).bind fun due14 => (f_joined u_ x_ x_1).bind fun t15 => (f_w_is (PyData.int t15) (PyData.int due14)).bind fun t16 => (orO (!t16) ((f_joined u_ x_1 x_).bind fun t17 => (f_w_is (PyData.int t17) (PyData.int due14)).bind fun t18 => some (!t18))).bind fun t19 => if t19 = true then some (.rt false) else some (.nx listed_)
def f_w_small_L2 (u_ : Int) (listed : (List (List Int))) (x_ : Int) (picked : (List Int)) (x_2 : Int) (merged_ : (List Int)) : Option ((List Int)) :=
  (atI listed x_2).bind fun t53 => (catO merged_ t53).bind fun merged55 => some merged55
def f_w_small_L3 (u_ : Int) (listed : (List (List Int))) (x_ : Int) (picked : (List Int)) (due : Int) (x_3 : Int) (folded_ : Int) : Option (Int) :=
  (f_joined u_ x_3 folded_).bind fun folded75 => some folded75
def f_w_small_L4 (u_ : Int) (x_ : Int) (x_4 : Int) (listed_ : (List (List Int))) : Option (Lp ((List (List Int))) Bool) :=
  (atI listed_ x_).bind fun t93 => (repTO t93 x_4).bind fun t94 => (f_w_cut u_ t94).bind fun t95 => (idxO listed_ t95).bind fun due97 => (f_joined_many u_ x_ x_4).bind fun t98 => (f_w_is (PyData.int t98) (PyData.int due97)).bind fun t99 => (orO (!t99) ((repTO [x_] x_4).bind fun t100 => (f_joined_all u_ t100).bind fun t101 => (f_w_is (PyData.int t101) (PyData.int due97)).bind fun t102 => some (!t102))).bind fun t103 => if t103 = true then some (.rt false) else some (.nx listed_)
def f_w_small_J1 (u_ : Int) (d_ : (List Int)) (listed : (List (List Int))) (x_ : Int) (size_ : Int) : Option (Bool) :=
  (rng1O size_).bind fun is44 => (lcC (fun x45 => some true) (fun x45 => (atI d_ ((13 : Int) + (x45 % (9 : Int)))).bind fun t46 => (mulO t46 (x45 + (1 : Int))).bind fun t47 => (modO t47 (listed.length : Int)).bind fun t48 => some t48) is44).bind fun picked50 => (some []).bind fun merged51 => (forS (fun x_2 (merged_ : (List Int)) => f_w_small_L2 u_ listed x_ picked50 x_2 merged_) picked50 merged51).bind fun merged61 => (f_w_cut u_ merged61).bind fun t63 => (idxO listed t63).bind fun due65 => (f_joined_all u_ picked50).bind fun t66 => (f_w_is (PyData.int t66) (PyData.int due65)).bind fun t67 => if (!t67) = true then some false else (f_joined_all u_ picked50.reverse).bind fun t69 => (f_w_is (PyData.int t69) (PyData.int due65)).bind fun t70 => if (!t70) = true then some false else (some (0 : Int)).bind fun folded72 => (forS (fun x_3 (folded_ : Int) => f_w_small_L3 u_ listed x_ picked50 due65 x_3 folded_) picked50 folded72).bind fun folded80 => (f_w_is (PyData.int folded80) (PyData.int due65)).bind fun t82 => (orO (!t82) ((f_joined_all u_ []).bind fun t83 => (f_w_is (PyData.int t83) (PyData.int (0 : Int))).bind fun t84 => (orO (!t84) ((f_joined_all u_ [x_]).bind fun t85 => (f_w_is (PyData.int t85) (PyData.int x_)).bind fun t86 => some (!t86))).bind fun t87 => some t87)).bind fun t88 => if t88 = true then some false else (rng1O (u_ + (4 : Int))).bind fun is90 => thenL (forG (fun x_4 (listed_ : (List (List Int))) => f_w_small_L4 u_ x_ x_4 listed_) is90 listed) (fun r_ => some r_) fun listed120 => some true
def f_w_small (u_ : Int) (c_ : Int) (d_ : (List Int)) : Option Bool :=
  (f_w_listed u_ c_).bind fun listed2 => (atI d_ (10 : Int)).bind fun t3 => (modO t3 (listed2.length : Int)).bind fun x_5 => (rng1O (listed2.length : Int)).bind fun is6 => thenL (forG (fun x_1 (listed_ : (List (List Int))) => f_w_small_L1 u_ d_ x_5 x_1 listed_) is6 listed2) (fun r_ => some r_) fun listed36 => (atI d_ (11 : Int)).bind fun t39 => (some (t39 % (9 : Int))).bind fun size40 => (atI d_ (12 : Int)).bind fun t41 => if (decide ((t41 % (8 : Int)) = (3 : Int))) = true then (some (40 : Int)).bind fun size181 => f_w_small_J1 u_ d_ listed36 x_5 size181 else f_w_small_J1 u_ d_ listed36 x_5 size40
def f_w_far (u_ : Int) (d_ : (List Int)) : Option Bool :=
  (rng1O (4 : Int)).bind fun is1 => (lcC (fun x2 => some true) (fun x2 => (f_w_great d_ ((46 : Int) + ((11 : Int) * x2))).bind fun t3 => (f_w_bound u_).bind fun t4 => (modO t3 t4).bind fun t5 => some ((1 : Int) + t5)) is1).bind fun pool7 => (f_w_members u_ pool7 d_ (22 : Int)).bind fun left9 => (f_w_members u_ pool7 d_ (28 : Int)).bind fun right11 => (f_w_members u_ pool7 d_ (34 : Int)).bind fun third13 => (f_w_place u_ left9).bind fun x_15 => (f_w_place u_ right11).bind fun y_17 => (f_w_place u_ third13).bind fun z_19 => (catO left9 right11).bind fun t20 => (f_w_cut u_ t20).bind fun t21 => (f_w_place u_ t21).bind fun both23 => (f_joined u_ x_15 y_17).bind fun t24 => (f_w_is (PyData.int t24) (PyData.int both23)).bind fun t25 => (orO (!t25) ((f_joined u_ y_17 x_15).bind fun t26 => (f_w_is (PyData.int t26) (PyData.int both23)).bind fun t27 => some (!t27))).bind fun t28 => if t28 = true then some false else (catO left9 right11).bind fun t30 => (catO t30 third13).bind fun t31 => (f_w_cut u_ t31).bind fun t32 => (f_w_place u_ t32).bind fun every34 => (f_joined u_ x_15 y_17).bind fun t35 => (f_joined u_ t35 z_19).bind fun t36 => (f_w_is (PyData.int t36) (PyData.int every34)).bind fun t37 => (orO (!t37) ((f_joined u_ y_17 z_19).bind fun t38 => (f_joined u_ x_15 t38).bind fun t39 => (f_w_is (PyData.int t39) (PyData.int every34)).bind fun t40 => some (!t40))).bind fun t41 => if t41 = true then some false else (f_joined_all u_ [z_19, x_15, (0 : Int), y_17]).bind fun t43 => (f_w_is (PyData.int t43) (PyData.int every34)).bind fun t44 => (orO (!t44) ((f_joined_all u_ [y_17, z_19, x_15]).bind fun t45 => (f_w_is (PyData.int t45) (PyData.int every34)).bind fun t46 => some (!t46))).bind fun t47 => if t47 = true then some false else (f_w_after u_ left9).bind fun t49 => (catO t49 right11).bind fun t50 => (f_w_cut u_ t50).bind fun t51 => (f_w_place u_ t51).bind fun due53 => (f_joined u_ (x_15 + (1 : Int)) y_17).bind fun t54 => (f_w_is (PyData.int t54) (PyData.int due53)).bind fun t55 => if (!t55) = true then some false else (f_joined u_ x_15 (0 : Int)).bind fun t57 => (f_w_is (PyData.int t57) (PyData.int x_15)).bind fun t58 => (orO (!t58) ((f_joined u_ (0 : Int) y_17).bind fun t59 => (f_w_is (PyData.int t59) (PyData.int y_17)).bind fun t60 => some (!t60))).bind fun t61 => if t61 = true then some false else (repTO right11 u_).bind fun t63 => (f_w_cut u_ t63).bind fun t64 => (f_w_place u_ t64).bind fun due66 => (f_w_great d_ (90 : Int)).bind fun t67 => (some (u_ + t67)).bind fun far68 => (f_joined_many u_ y_17 far68).bind fun t69 => (f_w_is (PyData.int t69) (PyData.int due66)).bind fun t70 => (orO (!t70) ((f_joined_many u_ y_17 u_).bind fun t71 => (f_w_is (PyData.int t71) (PyData.int due66)).bind fun t72 => some (!t72))).bind fun t73 => if t73 = true then some false else (atI d_ (40 : Int)).bind fun t75 => (modO t75 (u_ + (2 : Int))).bind fun times77 => (repTO third13 times77).bind fun t78 => (f_w_cut u_ t78).bind fun t79 => (f_w_place u_ t79).bind fun due81 => (f_joined_many u_ z_19 times77).bind fun t82 => (f_w_is (PyData.int t82) (PyData.int due81)).bind fun t83 => if (!t83) = true then some false else (atI d_ (41 : Int)).bind fun t85 => (f_capacity u_ ((1 : Int) + (t85 % (99 : Int)))).bind fun room87 => (andO (decide ((decide (both23 < room87)) = ((decide (x_15 < room87)) && (decide (y_17 < room87))))) ((atI d_ (41 : Int)).bind fun t88 => (f_w_product ((u_ + (1 : Int)) + (t88 % (99 : Int))) u_).bind fun t89 => some (decide (room87 = t89)))).bind fun t90 => some t90
def f_w_ask (which : Str) (a_ : PyData) : Option PyData := chI idD (F__law_ask [PyData.str which, idD a_])
def f_w_word (which : Str) (a_ : PyData) : Option Str := chI PyData.str (F__law_word [PyData.str which, idD a_])
def f_w_refusals_L1 (u_ : Int) (bad : (List (Str × PyData × Str))) (x_1 : (Str × PyData × Str)) : Option (Lp (Unit) Bool) :=
  (f_w_word x_1.1 x_1.2.1).bind fun t25 => (bD (p_ne (PyData.str t25) (PyData.str x_1.2.2))).bind fun t26 => if t26 = true then some (.rt false) else some (.nx ())
def f_w_refusals_L2 (good : (List (Str × PyData × Int))) (x_2 : (Str × PyData × Int)) : Option (Lp (Unit) Bool) :=
  (f_w_word x_2.1 x_2.2.1).bind fun t40 => (bD (p_ne (PyData.str t40) (PyData.str ("let" : Str)))).bind fun t41 => (orO t41 ((f_w_ask x_2.1 x_2.2.1).bind fun t42 => (f_w_is t42 (PyData.int x_2.2.2)).bind fun t43 => some (!t43))).bind fun t44 => if t44 = true then some (.rt false) else some (.nx ())
def f_w_refusals (odd : PyData) (u_ : Int) : Option Bool :=
  (some [(("joined" : Str), ((p3 idD idD idD) (odd, odd, odd)), ("width" : Str)), (("joined" : Str), ((p3 idD idD idD) ((PyData.int u_), odd, odd)), ("one" : Str)), (("joined" : Str), ((p3 idD idD idD) ((PyData.int u_), (PyData.int (3 : Int)), odd)), ("other" : Str))]).bind fun bad1 => (catO bad1 [(("joined" : Str), ((p3 idD PyData.int idD) ((PyData.int (0 : Int)), (1 : Int), (PyData.int (1 : Int)))), ("width" : Str)), (("joined" : Str), ((p3 idD PyData.int idD) ((PyData.bool true), (1 : Int), (PyData.int (1 : Int)))), ("width" : Str)), (("joined" : Str), ((p3 idD PyData.int idD) ((PyData.int u_), (-1 : Int), (PyData.bool true))), ("one" : Str))]).bind fun bad3 => (catO bad3 [(("joined" : Str), ((p3 PyData.int idD idD) (u_, (PyData.bool true), (PyData.int (1 : Int)))), ("one" : Str)), (("joined" : Str), ((p3 PyData.int idD idD) (u_, (PyData.int (1 : Int)), (PyData.int (-1 : Int)))), ("other" : Str)), (("joined" : Str), ((p3 PyData.int idD idD) (u_, (PyData.int (0 : Int)), (PyData.bool true))), ("other" : Str))]).bind fun bad5 => (catO bad5 [(("joined_all" : Str), ((p2 idD idD) (odd, odd)), ("width" : Str)), (("joined_all" : Str), ((p2 idD idD) ((PyData.int (0 : Int)), ((tp PyData.int) []))), ("width" : Str))]).bind fun bad7 => (catO bad7 [(("joined_all" : Str), ((p2 PyData.int PyData.int) (u_, (5 : Int))), ("numbers" : Str))]).bind fun bad9 => (catO bad9 [(("joined_all" : Str), ((p2 PyData.int idD) (u_, ((ls PyData.int) [(1 : Int), (2 : Int)]))), ("numbers" : Str)), (("joined_all" : Str), ((p2 PyData.int idD) (u_, ((p2 PyData.int PyData.int) ((1 : Int), (-1 : Int))))), ("numbers" : Str))]).bind fun bad11 => (catO bad11 [(("joined_all" : Str), ((p2 PyData.int (tp idD)) (u_, [(PyData.int (3 : Int)), odd, (PyData.int (1 : Int))])), ("numbers" : Str)), (("joined_all" : Str), ((p2 PyData.int (tp idD)) (u_, [(PyData.bool true)])), ("numbers" : Str))]).bind fun bad13 => (catO bad13 [(("joined_all" : Str), ((p2 PyData.int (opt (p2 PyData.int (p1 PyData.int)))) (u_, none)), ("numbers" : Str)), (("joined_all" : Str), ((p2 PyData.int (opt (p2 PyData.int (p1 PyData.int)))) (u_, (some ((2 : Int), (1 : Int))))), ("numbers" : Str))]).bind fun bad15 => (catO bad15 [(("joined_many" : Str), ((p3 idD idD idD) (odd, odd, odd)), ("width" : Str)), (("joined_many" : Str), ((p3 idD idD idD) ((PyData.int (-1 : Int)), (PyData.int (1 : Int)), (PyData.int (1 : Int)))), ("width" : Str))]).bind fun bad17 => (catO bad17 [(("joined_many" : Str), ((p3 PyData.int idD idD) (u_, odd, odd)), ("number" : Str)), (("joined_many" : Str), ((p3 PyData.int idD idD) (u_, (PyData.int (-1 : Int)), (PyData.int (0 : Int)))), ("number" : Str))]).bind fun bad19 => (catO bad19 [(("joined_many" : Str), ((p3 PyData.int PyData.int idD) (u_, (2 : Int), odd)), ("many" : Str)), (("joined_many" : Str), ((p3 PyData.int PyData.int idD) (u_, (0 : Int), (PyData.int (-1 : Int)))), ("many" : Str))]).bind fun bad21 => (catO bad21 [(("joined_many" : Str), ((p3 idD PyData.int idD) ((PyData.int u_), (1 : Int), (PyData.bool true))), ("many" : Str)), (("joined_many" : Str), ((p3 idD PyData.int idD) ((PyData.bool true), (1 : Int), (PyData.int (1 : Int)))), ("width" : Str))]).bind fun bad23 => thenL (forG (fun x_1 (s_ : Unit) => f_w_refusals_L1 u_ bad23 x_1) bad23 ()) (fun r_ => some r_) fun s32 => (some [(("joined" : Str), ((tp idD) [(PyData.int u_), (PyData.int (0 : Int)), (PyData.int (0 : Int))]), (0 : Int)), (("joined" : Str), ((tp idD) [(PyData.int u_), (PyData.int (0 : Int)), (PyData.int u_)]), u_), (("joined" : Str), ((tp idD) [(PyData.int (1 : Int)), (PyData.int (4 : Int)), (PyData.int (9 : Int))]), (9 : Int)), (("joined_all" : Str), ((tp idD) [(PyData.int u_), ((tp PyData.int) [])]), (0 : Int))]).bind fun good34 => (catO good34 [(("joined_all" : Str), ((tp idD) [(PyData.int u_), ((p3 PyData.int PyData.int PyData.int) ((0 : Int), (0 : Int), (7 : Int)))]), (7 : Int)), (("joined_all" : Str), ((tp idD) [(PyData.int u_), ((p1 PyData.int) (0 : Int))]), (0 : Int)), (("joined_many" : Str), ((tp idD) [(PyData.int u_), (PyData.int (5 : Int)), (PyData.int (0 : Int))]), (0 : Int))]).bind fun good36 => (catO good36 [(("joined_many" : Str), ((p3 PyData.int PyData.int PyData.int) (u_, (0 : Int), (9 : Int))), (0 : Int)), (("joined_many" : Str), ((p3 PyData.int PyData.int PyData.int) (u_, (5 : Int), (1 : Int))), (5 : Int)), (("joined_many" : Str), ((p3 PyData.int PyData.int PyData.int) ((1 : Int), (8 : Int), (6 : Int))), (8 : Int))]).bind fun good38 => thenL (forG (fun x_2 (s_ : Unit) => f_w_refusals_L2 good38 x_2) good38 ()) (fun r_ => some r_) fun s53 => some true
def f_law_J1 (d_ : (List Int)) (u__ : Int) : Option (Bool) :=
  (f_w_far u__ d_).bind fun t15 => if (!t15) = true then some false else (powO (10 : Int) (22 : Int)).bind fun t17 => (some [(nn ()), (PyData.str ("3" : Str)), ((ls PyData.int) []), (PyData.int (-1 : Int)), ((p1 PyData.int) (2 : Int)), (PyData.bool false), (PyData.bool true), (PyData.int (-t17))]).bind fun odds18 => (atI d_ (3 : Int)).bind fun t19 => (atI odds18 (t19 % (8 : Int))).bind fun t20 => (atI d_ (4 : Int)).bind fun t21 => (f_w_refusals t20 ((1 : Int) + (t21 % (7 : Int)))).bind fun t22 => some t22
def f_law (script : (List Int)) : Option Bool :=
  (f_w_draws script (102 : Int)).bind fun d_2 => (some [((1 : Int), (12 : Int)), ((2 : Int), (5 : Int)), ((3 : Int), (4 : Int)), ((4 : Int), (3 : Int)), ((5 : Int), (2 : Int)), ((2 : Int), (6 : Int)), ((6 : Int), (2 : Int)), ((9 : Int), (1 : Int))]).bind fun pairs3 => (atI d_2 (0 : Int)).bind fun t4 => (atI pairs3 (t4 % (8 : Int))).bind fun pair6 => (f_w_small pair6.1 pair6.2 d_2).bind fun t7 => if (!t7) = true then some false else (atI d_2 (1 : Int)).bind fun t9 => (some ((1 : Int) + (t9 % (40 : Int)))).bind fun u_10 => (atI d_2 (2 : Int)).bind fun t11 => if (decide ((0 : Int) < (t11 % (4 : Int)))) = true then (atI d_2 (1 : Int)).bind fun t31 => (some ((1 : Int) + (t31 % (8 : Int)))).bind fun u_32 => f_law_J1 d_2 u_32 else f_law_J1 d_2 u_10
end
end K19
namespace K19
open PySem PySem.Spec PyProof.Rows L2 DL
theorem k_is_integer {thing : Int} {r : Bool} (h : f_is_integer thing = some r) : F_is_integer [PyData.int thing] = some (.im (PyData.bool r)) := by
  unfold f_is_integer at h
  refine t_fnI (enc := PyData.bool) rfl ?_
  show wS _ [im (PyData.int thing)] _
  cases h
  refine (w_ret (andXt (isX (vI rfl) rfl rfl) (notX (isX (vI rfl) rfl rfl))) ?_)
  exact rfl
theorem k_falling {members : (List Int)} {r : (List Int)} (h : f_falling members = some r) : F_falling [(ls PyData.int) members] = some (.im ((tp PyData.int) r)) := by
  unfold f_falling at h
  refine t_fnI (enc := (tp PyData.int)) rfl ?_
  show wS _ [im ((ls PyData.int) members)] _
  cases h
  refine (w_ret (cbX (dX (srtLX (ns := members) (dX (vI rfl) d0 rfl)) d0 rfl) rfl) ?_)
  exact rfl
theorem k__greatest_member {few : Int} {rest : Int} {r : Int} (h : f_greatest_member few rest = some r) : F__greatest_member [PyData.int few, PyData.int rest] = some (.im (PyData.int r)) := by
  unfold f_greatest_member at h
  refine t_fnI (enc := PyData.int) rfl ?_
  show wS _ [im (PyData.int few), im (PyData.int rest), none, none, none] _
  obtain ⟨high1, h_high1, h⟩ := bnd h
  refine w_seq ((t_set (f := PyData.int) (v := (2 : Int)) (w := high1) h_high1 cI rfl ?_))
  show wS _ [im (PyData.int few), im (PyData.int rest), im (PyData.int high1), none, none] _
  obtain ⟨high7, hl, h⟩ := bnd h
  refine w_seq ((t_whS (fun (high_ : Int) => f_greatest_member_L1c few rest high_) (fun (high_ : Int) => f_greatest_member_L1 few rest high_) (fun (high_ : Int) e => e = [im (PyData.int few), im (PyData.int rest), im (PyData.int high_), none, none]) (N := 300) rfl rfl hl (fun high_ b_ h e he => ?_) (fun high_ s2_ h e he => ?_) (fun e he => ?_)))
  · subst he
    replace h : f_greatest_member_L1c few rest high_ = some b_ := h
    unfold f_greatest_member_L1c at h
    obtain ⟨t5, h_t5, h⟩ := bnd h
    cases h
    exact (bang (binX (cbX (dX (binX (binX (vI rfl) (vI rfl) rfl rfl e_add) cI rfl rfl e_sub) (dX (vI rfl) d0 rfl) rfl) (o_comb h_t5)) (vI rfl) rfl rfl e_qle))
  · subst he
    show wS _ [im (PyData.int few), im (PyData.int rest), im (PyData.int high_), none, none] _
    replace h : f_greatest_member_L1 few rest high_ = some s2_ := h
    unfold f_greatest_member_L1 at h
    obtain ⟨high4, h_high4, h⟩ := bnd h
    refine (t_set (f := PyData.int) (v := (high_ * (2 : Int))) (w := high4) h_high4 (binX (vI rfl) cI rfl rfl (mT (e_mul (.inr (by decide))))) rfl ?_)
    cases h
    exact rfl
  · subst he
    show wS _ [im (PyData.int few), im (PyData.int rest), im (PyData.int high7), none, none] _
    obtain ⟨low8, h_low8, h⟩ := bnd h
    refine w_seq ((t_set (f := PyData.int) (v := (high7 / (2 : Int))) (w := low8) h_low8 (binX (vI rfl) cI rfl rfl (e_div (by decide) (by decide))) rfl ?_))
    show wS _ [im (PyData.int few), im (PyData.int rest), im (PyData.int high7), im (PyData.int low8), none] _
    obtain ⟨s21, hl, h⟩ := bnd h
    refine w_seq ((t_whS (fun (s_ : Int × Int) => f_greatest_member_L2c few rest s_.1 s_.2) (fun (s_ : Int × Int) => f_greatest_member_L2 few rest s_.1 s_.2) (fun (s_ : Int × Int) e => ∃ (o15 : Option PyData), e = [im (PyData.int few), im (PyData.int rest), im (PyData.int s_.1), im (PyData.int s_.2), imo o15]) (N := 300) rfl ⟨none, rfl⟩ hl (fun s_ b_ h e he => ?_) (fun s_ s2_ h e he => ?_) (fun e he => ?_)))
    · obtain ⟨o15, rfl⟩ := he
      obtain ⟨high_, low_⟩ := s_
      replace h : f_greatest_member_L2c few rest high_ low_ = some b_ := h
      unfold f_greatest_member_L2c at h
      cases h
      exact (bang (binX (binX (vI rfl) (vI rfl) rfl rfl e_sub) cI rfl rfl e_qgt))
    · obtain ⟨o15, rfl⟩ := he
      obtain ⟨high_, low_⟩ := s_
      show wS _ [im (PyData.int few), im (PyData.int rest), im (PyData.int high_), im (PyData.int low_), imo o15] _
      replace h : f_greatest_member_L2 few rest high_ low_ = some s2_ := h
      unfold f_greatest_member_L2 at h
      obtain ⟨middle16, h_middle16, h⟩ := bnd h
      refine w_seq ((t_set (f := PyData.int) (v := ((low_ + high_) / (2 : Int))) (w := middle16) h_middle16 (binX (binX (vI rfl) (vI rfl) rfl rfl e_add) cI rfl rfl (e_div (by decide) (by decide))) rfl ?_))
      show wS _ [im (PyData.int few), im (PyData.int rest), im (PyData.int high_), im (PyData.int low_), im (PyData.int middle16)] _
      obtain ⟨t17, h_t17, h⟩ := bnd h
      refine w_seq ((w_if (b := (decide (t17 ≤ rest))) (bang (binX (cbX (dX (binX (binX (vI rfl) (vI rfl) rfl rfl e_add) cI rfl rfl e_sub) (dX (vI rfl) d0 rfl) rfl) (o_comb h_t17)) (vI rfl) rfl rfl e_qle)) (fun hc18 => ?_) (fun hc18 => ?_)))
      · rw [if1 hc18] at h
        obtain ⟨low19, h_low19, h⟩ := bnd h
        refine (t_set (f := PyData.int) (v := middle16) (w := low19) h_low19 (vI rfl) rfl ?_)
        show wS _ [im (PyData.int few), im (PyData.int rest), im (PyData.int high_), im (PyData.int low19), im (PyData.int middle16)] _
        refine w_nx ?_
        cases h
        exact ⟨some (PyData.int middle16), rfl⟩
      · rw [if0 hc18] at h
        obtain ⟨high20, h_high20, h⟩ := bnd h
        refine (t_set (f := PyData.int) (v := middle16) (w := high20) h_high20 (vI rfl) rfl ?_)
        show wS _ [im (PyData.int few), im (PyData.int rest), im (PyData.int high20), im (PyData.int low_), im (PyData.int middle16)] _
        refine w_nx ?_
        cases h
        exact ⟨some (PyData.int middle16), rfl⟩
    · obtain ⟨o22, rfl⟩ := he
      show wS _ [im (PyData.int few), im (PyData.int rest), im (PyData.int s21.1), im (PyData.int s21.2), imo o22] _
      cases h
      refine w_seq ((w_ret (vI rfl) ?_))
      exact rfl
theorem k__law_mixed {cell : Int} {k_ : Int} {r : Int} (h : f_w_mixed cell k_ = some r) : F__law_mixed [PyData.int cell, PyData.int k_] = some (.im (PyData.int r)) := by
  unfold f_w_mixed at h
  refine t_fnI (enc := PyData.int) rfl ?_
  show wS _ [im (PyData.int cell), im (PyData.int k_), none] _
  obtain ⟨x_2, h_t1, h⟩ := bnd h
  refine w_seq ((t_set (f := PyData.int) (v := x_2) (w := x_2) rfl (binX (binX (binX (cbX (dX (vI rfl) d0 rfl) o_int) cI rfl rfl (e_mod (by decide))) cI rfl rfl e_add) (binX (binX (vI rfl) cI rfl rfl (mT (e_mul (.inr (by decide))))) cI rfl rfl e_add) rfl rfl (mT (o_mul h_t1))) rfl ?_))
  show wS _ [im (PyData.int cell), im (PyData.int k_), im (PyData.int x_2)] _
  obtain ⟨x_3, h_x_3, h⟩ := bnd h
  refine w_seq ((t_set (f := PyData.int) (v := ((((x_2 % (2147483629 : Int)) / (19 : Int)) + (k_ * (86453 : Int))) * (40487 : Int))) (w := x_3) h_x_3 (binX (binX (binX (binX (cbX (dX (vI rfl) d0 rfl) o_int) cI rfl rfl (e_mod (by decide))) cI rfl rfl (e_div (by decide) (by decide))) (binX (vI rfl) cI rfl rfl (mT (e_mul (.inr (by decide))))) rfl rfl e_add) cI rfl rfl (mT (e_mul (.inr (by decide))))) rfl ?_))
  show wS _ [im (PyData.int cell), im (PyData.int k_), im (PyData.int x_3)] _
  cases h
  refine w_seq ((w_ret (binX (binX (binX (cbX (dX (vI rfl) d0 rfl) o_int) cI rfl rfl (e_mod (by decide))) cI rfl rfl (e_div (by decide) (by decide))) cI rfl rfl (e_mod (by decide))) ?_))
  exact rfl
theorem k__law_is {got : PyData} {due : PyData} {r : Bool} (h : f_w_is got due = some r) : F__law_is [idD got, idD due] = some (.im (PyData.bool r)) := by
  unfold f_w_is at h
  refine t_fnI (enc := PyData.bool) rfl ?_
  show wS _ [im (idD got), im (idD due)] _
  obtain ⟨t1, h_t1, h⟩ := bnd h
  obtain ⟨t5, h_t5, h⟩ := bnd h
  cases h
  refine (w_ret (andX (isX (vI rfl) rfl h_t1) h_t5 (fun _ _ hq => (by obtain ⟨t2, h_t2, hq⟩ := bnd hq; obtain ⟨t4, h_t4, hq⟩ := bnd hq; have hq := Option.some.inj hq; subst hq; exact (andX (notX (isX (vI rfl) rfl h_t2)) h_t4 (fun _ _ hq => (by obtain ⟨t3, h_t3, hq⟩ := bnd hq; have hq := Option.some.inj hq; subst hq; exact (binX (vI rfl) (vI rfl) rfl rfl (bD_ok h_t3)))))))) ?_)
  exact rfl
theorem k__law_great {d_ : (List Int)} {k_ : Int} {r : Int} (h : f_w_great d_ k_ = some r) : F__law_great [(ls PyData.int) d_, PyData.int k_] = some (.im (PyData.int r)) := by
  unfold f_w_great at h
  refine t_fnI (enc := PyData.int) rfl ?_
  show wS _ [im ((ls PyData.int) d_), im (PyData.int k_), none, none] _
  obtain ⟨told1, h_told1, h⟩ := bnd h
  refine w_seq ((t_set (f := PyData.int) (v := (0 : Int)) (w := told1) h_told1 cI rfl ?_))
  show wS _ [im ((ls PyData.int) d_), im (PyData.int k_), im (PyData.int told1), none] _
  obtain ⟨t2, h_t2, h⟩ := bnd h
  obtain ⟨is3, h_is3, h⟩ := bnd h
  obtain ⟨told11, hl, h⟩ := bnd h
  refine w_seq ((t_forS PyData.int is3 (fun x_1 (told_ : Int) => f_w_great_L1 d_ k_ x_1 told_) (fun (told_ : Int) e => ∃ (o7 : Option PyData), e = [im ((ls PyData.int) d_), im (PyData.int k_), im (PyData.int told_), imo o7]) (rng1I (binX cI (binX (binX (vI rfl) (vI rfl) rfl rfl (o_ixL (f := PyData.int) (l := d_) h_t2)) cI rfl rfl (e_mod (by decide))) rfl rfl e_add) h_is3) ⟨none, rfl⟩ hl (fun x_1 told_ s2_ h e he => ?_) (fun e he => ?_)))
  · obtain ⟨o7, rfl⟩ := he
    refine ⟨rfl, _, rfl, ?_⟩
    show wS _ [im ((ls PyData.int) d_), im (PyData.int k_), im (PyData.int told_), im (PyData.int x_1)] _
    replace h : f_w_great_L1 d_ k_ x_1 told_ = some s2_ := h
    unfold f_w_great_L1 at h
    obtain ⟨t8, h_t8, h⟩ := bnd h
    obtain ⟨told9, h_told9, h⟩ := bnd h
    refine (t_set (f := PyData.int) (v := ((told_ * (983 : Int)) + t8)) (w := told9) h_told9 (binX (binX (vI rfl) cI rfl rfl (mT (e_mul (.inr (by decide))))) (binX (vI rfl) (binX (binX (vI rfl) cI rfl rfl e_add) (vI rfl) rfl rfl e_add) rfl rfl (o_ixL (f := PyData.int) (l := d_) h_t8)) rfl rfl e_add) rfl ?_)
    cases h
    exact ⟨some (PyData.int x_1), rfl⟩
  · obtain ⟨o12, rfl⟩ := he
    show wS _ [im ((ls PyData.int) d_), im (PyData.int k_), im (PyData.int told11), imo o12] _
    cases h
    refine w_seq ((w_ret (vI rfl) ?_))
    exact rfl
theorem k__law_product {a_ : Int} {b_ : Int} {r : Int} (h : f_w_product a_ b_ = some r) : F__law_product [PyData.int a_, PyData.int b_] = some (.im (PyData.int r)) := by
  unfold f_w_product at h
  refine t_fnI (enc := PyData.int) rfl ?_
  show wS _ [im (PyData.int a_), im (PyData.int b_), none, none] _
  obtain ⟨told1, h_told1, h⟩ := bnd h
  refine w_seq ((t_set (f := PyData.int) (v := (1 : Int)) (w := told1) h_told1 cI rfl ?_))
  show wS _ [im (PyData.int a_), im (PyData.int b_), im (PyData.int told1), none] _
  obtain ⟨is2, h_is2, h⟩ := bnd h
  obtain ⟨told12, hl, h⟩ := bnd h
  refine w_seq ((t_forS PyData.int is2 (fun x_1 (told_ : Int) => f_w_product_L1 a_ b_ x_1 told_) (fun (told_ : Int) e => ∃ (o7 : Option PyData), e = [im (PyData.int a_), im (PyData.int b_), im (PyData.int told_), imo o7]) (rng1I (vI rfl) h_is2) ⟨none, rfl⟩ hl (fun x_1 told_ s2_ h e he => ?_) (fun e he => ?_)))
  · obtain ⟨o7, rfl⟩ := he
    refine ⟨rfl, _, rfl, ?_⟩
    show wS _ [im (PyData.int a_), im (PyData.int b_), im (PyData.int told_), im (PyData.int x_1)] _
    replace h : f_w_product_L1 a_ b_ x_1 told_ = some s2_ := h
    unfold f_w_product_L1 at h
    obtain ⟨t8, h_t8, h⟩ := bnd h
    obtain ⟨told10, h_t9, h⟩ := bnd h
    refine (t_set (f := PyData.int) (v := told10) (w := told10) rfl (binX (binX (vI rfl) (binX (vI rfl) (vI rfl) rfl rfl e_sub) rfl rfl (mT (o_mul h_t8))) (binX (vI rfl) cI rfl rfl e_add) rfl rfl (o_div h_t9)) rfl ?_)
    cases h
    exact ⟨some (PyData.int x_1), rfl⟩
  · obtain ⟨o13, rfl⟩ := he
    show wS _ [im (PyData.int a_), im (PyData.int b_), im (PyData.int told12), imo o13] _
    obtain ⟨t14, h_t14, h⟩ := bnd h
    cases h
    refine w_seq ((w_ret (binX (vI rfl) (cbX (dX (binX (vI rfl) (vI rfl) rfl rfl e_qge) d0 rfl) o_intB) rfl rfl (mT (o_mul h_t14))) ?_))
    exact rfl
theorem k__law_cut {u_ : Int} {members : (List Int)} {r : (List Int)} (h : f_w_cut u_ members = some r) : F__law_cut [PyData.int u_, (tp PyData.int) members] = some (.im ((tp PyData.int) r)) := by
  unfold f_w_cut at h
  refine t_fnI (enc := (tp PyData.int)) rfl ?_
  show wS _ [im (PyData.int u_), im ((tp PyData.int) members)] _
  cases h
  refine (w_ret (cbX (dX (cutLX (f := PyData.int) (l := (downI members)) (srtTX (ns := members) (dX (vI rfl) d0 rfl)) oN (oA (vI rfl)) rfl) d0 rfl) rfl) ?_)
  exact rfl
theorem k__law_after {u_ : Int} {members : (List Int)} {r : (List Int)} (h : f_w_after u_ members = some r) : F__law_after [PyData.int u_, (tp PyData.int) members] = some (.im ((tp PyData.int) r)) := by
  unfold f_w_after at h
  refine t_fnI (enc := (tp PyData.int)) rfl ?_
  show wS _ [im (PyData.int u_), im ((tp PyData.int) members), none, none] _
  refine w_seq ((w_if (b := (decide ((members.length : Int) < u_))) (bang (binX (cbX (dX (vI rfl) d0 rfl) (o_lenT (f := PyData.int) (l := members))) (vI rfl) rfl rfl e_qlt)) (fun hc1 => ?_) (fun hc1 => ?_)))
  · rw [if1 hc1] at h
    obtain ⟨t2, h_t2, h⟩ := bnd h
    cases h
    refine (w_ret (binX (vI rfl) (tupI (aI cI a0) (Nat.le_of_ble_eq_true rfl)) rfl rfl (o_catT (f := PyData.int) (l := members) (m := [(1 : Int)]) h_t2)) ?_)
    exact rfl
  · rw [if0 hc1] at h
    refine w_nx ?_
    show wS _ [im (PyData.int u_), im ((tp PyData.int) members), none, none] _
    obtain ⟨least4, h_t3, h⟩ := bnd h
    refine w_seq ((t_set (f := PyData.int) (v := least4) (w := least4) rfl (binX (vI rfl) (binX (cbX (dX (vI rfl) d0 rfl) (o_lenT (f := PyData.int) (l := members))) cI rfl rfl e_sub) rfl rfl (o_ixT (f := PyData.int) (l := members) h_t3)) rfl ?_))
    show wS _ [im (PyData.int u_), im ((tp PyData.int) members), im (PyData.int least4), none] _
    obtain ⟨t6, h_t6, h⟩ := bnd h
    obtain ⟨t7, h_t7, h⟩ := bnd h
    cases h
    refine w_seq ((w_ret (binX (cbX (dX (lcX (enc := PyData.int) (encB := PyData.int) h_t6 (seqTX (f := PyData.int) (l := members) (vI rfl)) rfl (fun x5 _ => ⟨_, rfl, rfl, fun _ hq => (by have hq := Option.some.inj hq; subst hq; exact (bang (binX (vI rfl) (vI rfl) rfl rfl e_qgt))), fun _ _ hq => (by have hq := Option.some.inj hq; subst hq; exact ⟨_, (vI rfl), rfl, rfl⟩)⟩)) d0 rfl) rfl) (tupI (aI (binX (vI rfl) cI rfl rfl e_add) a0) (Nat.le_of_ble_eq_true rfl)) rfl rfl (o_catT (f := PyData.int) (l := t6) (m := [(least4 + (1 : Int))]) h_t7)) ?_))
    exact rfl
theorem k__law_listed {u_ : Int} {c_ : Int} {r : (List (List Int))} (h : f_w_listed u_ c_ = some r) : F__law_listed [PyData.int u_, PyData.int c_] = some (.ac (r.map (tp PyData.int))) := by
  unfold f_w_listed at h
  refine t_fnA (enc := (tp PyData.int)) rfl ?_
  show wS _ [im (PyData.int u_), im (PyData.int c_), none, none, none, none, none, none, none] _
  obtain ⟨longest1, h_longest1, h⟩ := bnd h
  refine w_seq ((t_setL (f := (tp PyData.int)) (v := [[]]) (w := longest1) h_longest1 (lstX (aI (tupI a0 (Nat.le_of_ble_eq_true rfl)) a0) (Nat.le_of_ble_eq_true rfl)) rfl ?_))
  show wS _ [im (PyData.int u_), im (PyData.int c_), im ((ls (tp PyData.int)) longest1), none, none, none, none, none, none] _
  obtain ⟨told2, h_told2, h⟩ := bnd h
  refine w_seq ((t_setL (f := (tp PyData.int)) (v := [[]]) (w := told2) h_told2 (lstX (aI (tupI a0 (Nat.le_of_ble_eq_true rfl)) a0) (Nat.le_of_ble_eq_true rfl)) rfl ?_))
  show wS _ [im (PyData.int u_), im (PyData.int c_), im ((ls (tp PyData.int)) longest1), im ((ls (tp PyData.int)) told2), none, none, none, none, none] _
  obtain ⟨is3, h_is3, h⟩ := bnd h
  obtain ⟨s90, hl, h⟩ := bnd h
  refine w_seq ((t_forS PyData.int is3 (fun x_1 (s_ : (List (List Int)) × (List (List Int))) => f_w_listed_L1 u_ c_ x_1 s_.1 s_.2) (fun (s_ : (List (List Int)) × (List (List Int))) e => ∃ (o60 : Option PyData) (o61 : Option Sl) (o62 : Option PyData) (o63 : Option PyData) (o64 : Option PyData), e = [im (PyData.int u_), im (PyData.int c_), im ((ls (tp PyData.int)) s_.1), im ((ls (tp PyData.int)) s_.2), imo o60, o61, imo o62, imo o63, imo o64]) (rng1I (vI rfl) h_is3) ⟨none, none, none, none, none, rfl⟩ hl (fun x_1 s_ s2_ h e he => ?_) (fun e he => ?_)))
  · obtain ⟨o60, o61, o62, o63, o64, rfl⟩ := he
    obtain ⟨longest_, told_⟩ := s_
    refine ⟨rfl, _, rfl, ?_⟩
    show wS _ [im (PyData.int u_), im (PyData.int c_), im ((ls (tp PyData.int)) longest_), im ((ls (tp PyData.int)) told_), im (PyData.int x_1), o61, imo o62, imo o63, imo o64] _
    replace h : f_w_listed_L1 u_ c_ x_1 longest_ told_ = some s2_ := h
    unfold f_w_listed_L1 at h
    obtain ⟨further65, h_further65, h⟩ := bnd h
    refine w_seq ((t_setA (f := (tp PyData.int)) (v := []) (w := further65) h_further65 (lstX a0 (Nat.le_of_ble_eq_true rfl)) rfl ?_))
    show wS _ [im (PyData.int u_), im (PyData.int c_), im ((ls (tp PyData.int)) longest_), im ((ls (tp PyData.int)) told_), im (PyData.int x_1), ac (further65.map (tp PyData.int)), imo o62, imo o63, imo o64] _
    obtain ⟨further83, hl, h⟩ := bnd h
    refine w_seq ((t_forS (tp PyData.int) longest_ (fun x_2 (further_ : (List (List Int))) => f_w_listed_L2 u_ c_ longest_ told_ x_2 further_) (fun (further_ : (List (List Int))) e => ∃ (o66 : Option PyData) (o67 : Option PyData) (o68 : Option PyData), e = [im (PyData.int u_), im (PyData.int c_), im ((ls (tp PyData.int)) longest_), im ((ls (tp PyData.int)) told_), im (PyData.int x_1), ac (further_.map (tp PyData.int)), imo o66, imo o67, imo o68]) (seqLX (f := (tp PyData.int)) (l := longest_) (vI rfl)) ⟨o62, o63, o64, rfl⟩ hl (fun x_2 further_ s2_ h e he => ?_) (fun e he => ?_)))
    · obtain ⟨o66, o67, o68, rfl⟩ := he
      refine ⟨rfl, _, rfl, ?_⟩
      show wS _ [im (PyData.int u_), im (PyData.int c_), im ((ls (tp PyData.int)) longest_), im ((ls (tp PyData.int)) told_), im (PyData.int x_1), ac (further_.map (tp PyData.int)), im ((tp PyData.int) x_2), imo o67, imo o68] _
      replace h : f_w_listed_L2 u_ c_ longest_ told_ x_2 further_ = some s2_ := h
      unfold f_w_listed_L2 at h
      obtain ⟨last69, h_last69, h⟩ := bnd h
      refine w_seq ((t_set (f := PyData.int) (v := c_) (w := last69) h_last69 (vI rfl) rfl ?_))
      show wS _ [im (PyData.int u_), im (PyData.int c_), im ((ls (tp PyData.int)) longest_), im ((ls (tp PyData.int)) told_), im (PyData.int x_1), ac (further_.map (tp PyData.int)), im ((tp PyData.int) x_2), im (PyData.int last69), imo o68] _
      refine t_join (fun (last_ : Int) e => e = [im (PyData.int u_), im (PyData.int c_), im ((ls (tp PyData.int)) longest_), im ((ls (tp PyData.int)) told_), im (PyData.int x_1), ac (further_.map (tp PyData.int)), im ((tp PyData.int) x_2), im (PyData.int last_), imo o68]) (fun (last_ : Int) => f_w_listed_J1 u_ c_ longest_ told_ further_ x_2 last_) (t := s2_) (fun last_ e he h => ?_) ?_
      · subst he
        replace h : f_w_listed_J1 u_ c_ longest_ told_ further_ x_2 last_ = some s2_ := h
        unfold f_w_listed_J1 at h
        show wS _ [im (PyData.int u_), im (PyData.int c_), im ((ls (tp PyData.int)) longest_), im ((ls (tp PyData.int)) told_), im (PyData.int x_1), ac (further_.map (tp PyData.int)), im ((tp PyData.int) x_2), im (PyData.int last_), imo o68] _
        obtain ⟨is73, h_is73, h⟩ := bnd h
        obtain ⟨further78, hl, h⟩ := bnd h
        refine w_seq ((t_forS PyData.int is73 (fun x_3 (further_ : (List (List Int))) => f_w_listed_L3 u_ c_ longest_ told_ x_2 last_ x_3 further_) (fun (further_ : (List (List Int))) e => ∃ (o74 : Option PyData), e = [im (PyData.int u_), im (PyData.int c_), im ((ls (tp PyData.int)) longest_), im ((ls (tp PyData.int)) told_), im (PyData.int x_1), ac (further_.map (tp PyData.int)), im ((tp PyData.int) x_2), im (PyData.int last_), imo o74]) (rng2I cI (binX (vI rfl) cI rfl rfl e_add) h_is73) ⟨o68, rfl⟩ hl (fun x_3 further_ s2_ h e he => ?_) (fun e he => ?_)))
        · obtain ⟨o74, rfl⟩ := he
          refine ⟨rfl, _, rfl, ?_⟩
          show wS _ [im (PyData.int u_), im (PyData.int c_), im ((ls (tp PyData.int)) longest_), im ((ls (tp PyData.int)) told_), im (PyData.int x_1), ac (further_.map (tp PyData.int)), im ((tp PyData.int) x_2), im (PyData.int last_), im (PyData.int x_3)] _
          replace h : f_w_listed_L3 u_ c_ longest_ told_ x_2 last_ x_3 further_ = some s2_ := h
          unfold f_w_listed_L3 at h
          obtain ⟨t75, h_t75, h⟩ := bnd h
          obtain ⟨further76, h_further76, h⟩ := bnd h
          refine (t_app (f := (tp PyData.int)) (l := further_) (a := t75) h_further76 ⟨_, (binX (vI rfl) (tupI (aI (vI rfl) a0) (Nat.le_of_ble_eq_true rfl)) rfl rfl (o_catT (f := PyData.int) (l := x_2) (m := [x_3]) h_t75)), rfl⟩ rfl rfl ?_)
          cases h
          exact ⟨some (PyData.int x_3), rfl⟩
        · obtain ⟨o79, rfl⟩ := he
          show wS _ [im (PyData.int u_), im (PyData.int c_), im ((ls (tp PyData.int)) longest_), im ((ls (tp PyData.int)) told_), im (PyData.int x_1), ac (further78.map (tp PyData.int)), im ((tp PyData.int) x_2), im (PyData.int last_), imo o79] _
          refine w_nx ?_
          cases h
          exact ⟨some ((tp PyData.int) x_2), some (PyData.int last_), o79, rfl⟩
      · refine ((w_if (b := (decide ((0 : Int) < (x_2.length : Int)))) (bang (binX (cbX (dX (vI rfl) d0 rfl) (o_lenT (f := PyData.int) (l := x_2))) cI rfl rfl e_qgt)) (fun hc70 => ?_) (fun hc70 => ?_)))
        · rw [if1 hc70] at h
          obtain ⟨last81, h_t80, h⟩ := bnd h
          refine (t_set (f := PyData.int) (v := last81) (w := last81) rfl (binX (vI rfl) (binX (cbX (dX (vI rfl) d0 rfl) (o_lenT (f := PyData.int) (l := x_2))) cI rfl rfl e_sub) rfl rfl (o_ixT (f := PyData.int) (l := x_2) h_t80)) rfl ?_)
          exact ⟨last81, rfl, h⟩
        · rw [if0 hc70] at h
          refine w_nx ?_
          exact ⟨last69, rfl, h⟩
    · obtain ⟨o84, o85, o86, rfl⟩ := he
      show wS _ [im (PyData.int u_), im (PyData.int c_), im ((ls (tp PyData.int)) longest_), im ((ls (tp PyData.int)) told_), im (PyData.int x_1), ac (further83.map (tp PyData.int)), imo o84, imo o85, imo o86] _
      obtain ⟨longest87, h_longest87, h⟩ := bnd h
      refine w_seq ((t_setL (f := (tp PyData.int)) (v := further83) (w := longest87) h_longest87 (cbX (dX (vB rfl) d0 rfl) rfl) rfl ?_))
      show wS _ [im (PyData.int u_), im (PyData.int c_), im ((ls (tp PyData.int)) longest87), im ((ls (tp PyData.int)) told_), im (PyData.int x_1), ac (further83.map (tp PyData.int)), imo o84, imo o85, imo o86] _
      obtain ⟨told89, h_t88, h⟩ := bnd h
      refine w_seq ((t_setL (f := (tp PyData.int)) (v := told89) (w := told89) rfl (binX (vI rfl) (vB rfl) rfl rfl (o_catL (f := (tp PyData.int)) (l := told_) (m := further83) h_t88)) rfl ?_))
      show wS _ [im (PyData.int u_), im (PyData.int c_), im ((ls (tp PyData.int)) longest87), im ((ls (tp PyData.int)) told89), im (PyData.int x_1), ac (further83.map (tp PyData.int)), imo o84, imo o85, imo o86] _
      refine w_nx ?_
      cases h
      exact ⟨some (PyData.int x_1), ac (further83.map (tp PyData.int)), o84, o85, o86, rfl⟩
  · obtain ⟨o91, o92, o93, o94, o95, rfl⟩ := he
    show wS _ [im (PyData.int u_), im (PyData.int c_), im ((ls (tp PyData.int)) s90.1), im ((ls (tp PyData.int)) s90.2), imo o91, o92, imo o93, imo o94, imo o95] _
    cases h
    refine w_seq ((w_ret (cbX (dX (vI rfl) d0 rfl) (o_sortedBT (l := s90.2))) ?_))
    exact rfl
theorem k__law_bound {u_ : Int} {r : Int} (h : f_w_bound u_ = some r) : F__law_bound [PyData.int u_] = some (.im (PyData.int r)) := by
  unfold f_w_bound at h
  refine t_fnI (enc := PyData.int) rfl ?_
  show wS _ [im (PyData.int u_), none] _
  obtain ⟨t1, h_t1, h⟩ := bnd h
  obtain ⟨t2, h_t2, h⟩ := bnd h
  obtain ⟨t3, h_t3, h⟩ := bnd h
  obtain ⟨t4, h_t4, h⟩ := bnd h
  obtain ⟨t5, h_t5, h⟩ := bnd h
  obtain ⟨t6, h_t6, h⟩ := bnd h
  obtain ⟨t7, h_t7, h⟩ := bnd h
  obtain ⟨bounds8, h_bounds8, h⟩ := bnd h
  refine w_seq ((t_setL (f := PyData.int) (v := [t1, t2, t3, t4, t5, t6, t7, (1000 : Int), (1000 : Int), (100 : Int), (100 : Int), (100 : Int), (100 : Int), (100 : Int)]) (w := bounds8) h_bounds8 (lstX (aI (binX cI cI rfl rfl (o_pow h_t1)) (aI (binX cI cI rfl rfl (o_pow h_t2)) (aI (binX cI cI rfl rfl (o_pow h_t3)) (aI (binX cI cI rfl rfl (o_pow h_t4)) (aI (binX cI cI rfl rfl (o_pow h_t5)) (aI (binX cI cI rfl rfl (o_pow h_t6)) (aI (binX cI cI rfl rfl (o_pow h_t7)) (aI cI (aI cI (aI cI (aI cI (aI cI (aI cI (aI cI a0)))))))))))))) (Nat.le_of_ble_eq_true rfl)) rfl ?_))
  show wS _ [im (PyData.int u_), im ((ls PyData.int) bounds8)] _
  refine w_seq ((w_if (b := (decide ((bounds8.length : Int) < u_))) (bang (binX (vI rfl) (cbX (dX (vI rfl) d0 rfl) (o_lenL (f := PyData.int) (l := bounds8))) rfl rfl e_qgt)) (fun hc9 => ?_) (fun hc9 => ?_)))
  · rw [if1 hc9] at h
    cases h
    refine (w_ret cI ?_)
    exact rfl
  · rw [if0 hc9] at h
    refine w_nx ?_
    show wS _ [im (PyData.int u_), im ((ls PyData.int) bounds8)] _
    obtain ⟨t10, h_t10, h⟩ := bnd h
    cases h
    refine w_seq ((w_ret (binX (vI rfl) (binX (vI rfl) cI rfl rfl e_sub) rfl rfl (o_ixL (f := PyData.int) (l := bounds8) h_t10)) ?_))
    exact rfl
theorem k_is_number {thing : Int} {r : Bool} (h : f_is_number thing = some r) : F_is_number [PyData.int thing] = some (.im (PyData.bool r)) := by
  unfold f_is_number at h
  refine t_fnI (enc := PyData.bool) rfl ?_
  show wS _ [im (PyData.int thing)] _
  obtain ⟨t1, h_t1, h⟩ := bnd h
  cases h
  refine (w_ret (andXt (callI (aI (vI rfl) a0) rfl (k_is_integer h_t1)) (binX (vI rfl) cI rfl rfl e_qge)) ?_)
  exact rfl
theorem k_is_natural {thing : Int} {r : Bool} (h : f_is_natural thing = some r) : F_is_natural [PyData.int thing] = some (.im (PyData.bool r)) := by
  unfold f_is_natural at h
  refine t_fnI (enc := PyData.bool) rfl ?_
  show wS _ [im (PyData.int thing)] _
  obtain ⟨t1, h_t1, h⟩ := bnd h
  cases h
  refine (w_ret (andXt (callI (aI (vI rfl) a0) rfl (k_is_integer h_t1)) (binX (vI rfl) cI rfl rfl e_qge)) ?_)
  exact rfl
theorem k__law_draws {script : (List Int)} {length : Int} {r : (List Int)} (h : f_w_draws script length = some r) : F__law_draws [(ls PyData.int) script, PyData.int length] = some (.ac (r.map PyData.int)) := by
  unfold f_w_draws at h
  refine t_fnA (enc := PyData.int) rfl ?_
  show wS _ [im ((ls PyData.int) script), im (PyData.int length), none, none, none, none] _
  obtain ⟨told1, h_told1, h⟩ := bnd h
  refine w_seq ((t_setA (f := PyData.int) (v := []) (w := told1) h_told1 (lstX a0 (Nat.le_of_ble_eq_true rfl)) rfl ?_))
  show wS _ [im ((ls PyData.int) script), im (PyData.int length), ac (told1.map PyData.int), none, none, none] _
  obtain ⟨told37, hl, h⟩ := bnd h
  refine w_seq ((t_forS PyData.int (cutD script none (some (63 : Int))) (fun x_1 (told_ : (List Int)) => f_w_draws_L1 script length x_1 told_) (fun (told_ : (List Int)) e => ∃ (o21 : Option PyData) (o22 : Option PyData) (o23 : Option PyData), e = [im ((ls PyData.int) script), im (PyData.int length), ac (told_.map PyData.int), imo o21, imo o22, imo o23]) (seqAX (f := PyData.int) (l := (cutD script none (some (63 : Int)))) (cutLX (f := PyData.int) (l := script) (vI rfl) oN (oA cI) rfl)) ⟨none, none, none, rfl⟩ hl (fun x_1 told_ s2_ h e he => ?_) (fun e he => ?_)))
  · obtain ⟨o21, o22, o23, rfl⟩ := he
    refine ⟨rfl, _, rfl, ?_⟩
    show wS _ [im ((ls PyData.int) script), im (PyData.int length), ac (told_.map PyData.int), im (PyData.int x_1), imo o22, imo o23] _
    replace h : f_w_draws_L1 script length x_1 told_ = some s2_ := h
    unfold f_w_draws_L1 at h
    obtain ⟨left24, h_left24, h⟩ := bnd h
    refine w_seq ((t_set (f := PyData.int) (v := (if x_1 < 0 then -x_1 else x_1)) (w := left24) h_left24 (cbX (dX (vI rfl) d0 rfl) o_abs) rfl ?_))
    show wS _ [im ((ls PyData.int) script), im (PyData.int length), ac (told_.map PyData.int), im (PyData.int x_1), im (PyData.int left24), imo o23] _
    obtain ⟨t25, h_t25, h⟩ := bnd h
    refine w_seq ((w_if (b := (decide (left24 < t25))) (bang (binX (vI rfl) (binX cI cI rfl rfl (o_pow h_t25)) rfl rfl e_qlt)) (fun hc26 => ?_) (fun hc26 => ?_)))
    · rw [if1 hc26] at h
      obtain ⟨t27, h_t27, h⟩ := bnd h
      obtain ⟨told28, h_told28, h⟩ := bnd h
      refine (t_app (f := PyData.int) (l := told_) (a := t27) h_told28 ⟨_, (callI (aI (vI rfl) (aI cI a0)) rfl (k__law_mixed h_t27)), rfl⟩ rfl rfl ?_)
      show wS _ [im ((ls PyData.int) script), im (PyData.int length), ac (told28.map PyData.int), im (PyData.int x_1), im (PyData.int left24), imo o23] _
      refine w_nx ?_
      cases h
      exact ⟨some (PyData.int x_1), some (PyData.int left24), o23, rfl⟩
    · rw [if0 hc26] at h
      obtain ⟨is29, h_is29, h⟩ := bnd h
      obtain ⟨s34, hl, h⟩ := bnd h
      refine (t_forS PyData.int is29 (fun x_2 (s_ : (List Int) × Int) => f_w_draws_L2 script length x_2 s_.1 s_.2) (fun (s_ : (List Int) × Int) e => ∃ (o30 : Option PyData), e = [im ((ls PyData.int) script), im (PyData.int length), ac (s_.1.map PyData.int), im (PyData.int x_1), im (PyData.int s_.2), imo o30]) (rng1I cI h_is29) ⟨o23, rfl⟩ hl (fun x_2 s_ s2_ h e he => ?_) (fun e he => ?_))
      · obtain ⟨o30, rfl⟩ := he
        obtain ⟨told_, left_⟩ := s_
        refine ⟨rfl, _, rfl, ?_⟩
        show wS _ [im ((ls PyData.int) script), im (PyData.int length), ac (told_.map PyData.int), im (PyData.int x_1), im (PyData.int left_), im (PyData.int x_2)] _
        replace h : f_w_draws_L2 script length x_2 told_ left_ = some s2_ := h
        unfold f_w_draws_L2 at h
        refine (w_if (b := (decide ((0 : Int) < left_))) (bang (binX (vI rfl) cI rfl rfl e_qgt)) (fun hc31 => ?_) (fun hc31 => ?_))
        · rw [if1 hc31] at h
          obtain ⟨told32, h_told32, h⟩ := bnd h
          refine w_seq ((t_app (f := PyData.int) (l := told_) (a := (left_ % (983 : Int))) h_told32 ⟨_, (binX (cbX (dX (vI rfl) d0 rfl) o_int) cI rfl rfl (e_mod (by decide))), rfl⟩ rfl rfl ?_))
          show wS _ [im ((ls PyData.int) script), im (PyData.int length), ac (told32.map PyData.int), im (PyData.int x_1), im (PyData.int left_), im (PyData.int x_2)] _
          obtain ⟨left33, h_left33, h⟩ := bnd h
          refine w_seq ((t_set (f := PyData.int) (v := (left_ / (983 : Int))) (w := left33) h_left33 (binX (vI rfl) cI rfl rfl (e_div (by decide) (by decide))) rfl ?_))
          show wS _ [im ((ls PyData.int) script), im (PyData.int length), ac (told32.map PyData.int), im (PyData.int x_1), im (PyData.int left33), im (PyData.int x_2)] _
          refine w_nx ?_
          cases h
          exact ⟨some (PyData.int x_2), rfl⟩
        · rw [if0 hc31] at h
          refine w_nx ?_
          cases h
          exact ⟨some (PyData.int x_2), rfl⟩
      · obtain ⟨o35, rfl⟩ := he
        show wS _ [im ((ls PyData.int) script), im (PyData.int length), ac (s34.1.map PyData.int), im (PyData.int x_1), im (PyData.int s34.2), imo o35] _
        refine w_nx ?_
        cases h
        exact ⟨some (PyData.int x_1), some (PyData.int s34.2), o35, rfl⟩
  · obtain ⟨o38, o39, o40, rfl⟩ := he
    show wS _ [im ((ls PyData.int) script), im (PyData.int length), ac (told37.map PyData.int), imo o38, imo o39, imo o40] _
    refine w_seq ((w_if (b := (decide ((0 : Int) < (script.length : Int)))) (bang (binX (cbX (dX (vI rfl) d0 rfl) (o_lenL (f := PyData.int) (l := script))) cI rfl rfl e_qgt)) (fun hc41 => ?_) (fun hc41 => ?_)))
    · rw [if1 hc41] at h
      obtain ⟨is42, h_is42, h⟩ := bnd h
      obtain ⟨told54, hl, h⟩ := bnd h
      refine (t_forS PyData.int is42 (fun x_3 (told_ : (List Int)) => f_w_draws_L3 script length x_3 told_) (fun (told_ : (List Int)) e => ∃ (o48 : Option PyData), e = [im ((ls PyData.int) script), im (PyData.int length), ac (told_.map PyData.int), imo o38, imo o39, imo o48]) (rng1I (vI rfl) h_is42) ⟨o40, rfl⟩ hl (fun x_3 told_ s2_ h e he => ?_) (fun e he => ?_))
      · obtain ⟨o48, rfl⟩ := he
        refine ⟨rfl, _, rfl, ?_⟩
        show wS _ [im ((ls PyData.int) script), im (PyData.int length), ac (told_.map PyData.int), imo o38, imo o39, im (PyData.int x_3)] _
        replace h : f_w_draws_L3 script length x_3 told_ = some s2_ := h
        unfold f_w_draws_L3 at h
        obtain ⟨t49, h_t49, h⟩ := bnd h
        obtain ⟨t50, h_t50, h⟩ := bnd h
        obtain ⟨t51, h_t51, h⟩ := bnd h
        obtain ⟨told52, h_told52, h⟩ := bnd h
        refine (t_app (f := PyData.int) (l := told_) (a := t51) h_told52 ⟨_, (callI (aI (binX (vI rfl) (binX (vI rfl) (cbX (dX cI (dX (cbX (dX (vI rfl) d0 rfl) (o_lenL (f := PyData.int) (l := script))) d0 rfl) rfl) o_min2) rfl rfl (o_mod h_t49)) rfl rfl (o_ixL (f := PyData.int) (l := script) h_t50)) (aI (binX (vI rfl) cI rfl rfl e_add) a0)) rfl (k__law_mixed h_t51)), rfl⟩ rfl rfl ?_)
        cases h
        exact ⟨some (PyData.int x_3), rfl⟩
      · obtain ⟨o55, rfl⟩ := he
        show wS _ [im ((ls PyData.int) script), im (PyData.int length), ac (told54.map PyData.int), imo o38, imo o39, imo o55] _
        obtain ⟨t56, h_t56, h⟩ := bnd h
        obtain ⟨told58, h_t57, h⟩ := bnd h
        refine w_seq ((t_setA (f := PyData.int) (v := told58) (w := told58) rfl (binX (vB rfl) (repX (f := PyData.int) (ds := [(0 : Int)]) (aI cI a0) (vI rfl) h_t56) rfl rfl (o_catL (f := PyData.int) (l := told54) (m := t56) h_t57)) rfl ?_))
        show wS _ [im ((ls PyData.int) script), im (PyData.int length), ac (told58.map PyData.int), imo o38, imo o39, imo o55] _
        cases h
        refine w_seq ((w_ret (cutLX (f := PyData.int) (l := told58) (vB rfl) oN (oA (vI rfl)) rfl) ?_))
        exact rfl
    · rw [if0 hc41] at h
      refine w_nx ?_
      show wS _ [im ((ls PyData.int) script), im (PyData.int length), ac (told37.map PyData.int), imo o38, imo o39, imo o40] _
      obtain ⟨t59, h_t59, h⟩ := bnd h
      obtain ⟨told61, h_t60, h⟩ := bnd h
      refine w_seq ((t_setA (f := PyData.int) (v := told61) (w := told61) rfl (binX (vB rfl) (repX (f := PyData.int) (ds := [(0 : Int)]) (aI cI a0) (vI rfl) h_t59) rfl rfl (o_catL (f := PyData.int) (l := told37) (m := t59) h_t60)) rfl ?_))
      show wS _ [im ((ls PyData.int) script), im (PyData.int length), ac (told61.map PyData.int), imo o38, imo o39, imo o40] _
      cases h
      refine w_seq ((w_ret (cutLX (f := PyData.int) (l := told61) (vB rfl) oN (oA (vI rfl)) rfl) ?_))
      exact rfl
theorem k__law_place {u_ : Int} {members : (List Int)} {r : Int} (h : f_w_place u_ members = some r) : F__law_place [PyData.int u_, (tp PyData.int) members] = some (.im (PyData.int r)) := by
  unfold f_w_place at h
  refine t_fnI (enc := PyData.int) rfl ?_
  show wS _ [im (PyData.int u_), im ((tp PyData.int) members), none, none] _
  obtain ⟨told1, h_told1, h⟩ := bnd h
  refine w_seq ((t_set (f := PyData.int) (v := (0 : Int)) (w := told1) h_told1 cI rfl ?_))
  show wS _ [im (PyData.int u_), im ((tp PyData.int) members), im (PyData.int told1), none] _
  obtain ⟨is2, h_is2, h⟩ := bnd h
  obtain ⟨told12, hl, h⟩ := bnd h
  refine w_seq ((t_forS PyData.int is2 (fun x_1 (told_ : Int) => f_w_place_L1 u_ members x_1 told_) (fun (told_ : Int) e => ∃ (o7 : Option PyData), e = [im (PyData.int u_), im ((tp PyData.int) members), im (PyData.int told_), imo o7]) (rng1I (cbX (dX (vI rfl) d0 rfl) (o_lenT (f := PyData.int) (l := members))) h_is2) ⟨none, rfl⟩ hl (fun x_1 told_ s2_ h e he => ?_) (fun e he => ?_)))
  · obtain ⟨o7, rfl⟩ := he
    refine ⟨rfl, _, rfl, ?_⟩
    show wS _ [im (PyData.int u_), im ((tp PyData.int) members), im (PyData.int told_), im (PyData.int x_1)] _
    replace h : f_w_place_L1 u_ members x_1 told_ = some s2_ := h
    unfold f_w_place_L1 at h
    obtain ⟨t8, h_t8, h⟩ := bnd h
    obtain ⟨t9, h_t9, h⟩ := bnd h
    obtain ⟨told10, h_told10, h⟩ := bnd h
    refine (t_set (f := PyData.int) (v := (told_ + t9)) (w := told10) h_told10 (binX (vI rfl) (callI (aI (binX (binX (binX (binX (vI rfl) (vI rfl) rfl rfl (o_ixT (f := PyData.int) (l := members) h_t8)) (vI rfl) rfl rfl e_add) cI rfl rfl e_sub) (vI rfl) rfl rfl e_sub) (aI (binX (vI rfl) (vI rfl) rfl rfl e_sub) a0)) rfl (k__law_product h_t9)) rfl rfl e_add) rfl ?_)
    cases h
    exact ⟨some (PyData.int x_1), rfl⟩
  · obtain ⟨o13, rfl⟩ := he
    show wS _ [im (PyData.int u_), im ((tp PyData.int) members), im (PyData.int told12), imo o13] _
    cases h
    refine w_seq ((w_ret (vI rfl) ?_))
    exact rfl
theorem k__law_members {u_ : Int} {pool : (List Int)} {d_ : (List Int)} {k_ : Int} {r : (List Int)} (h : f_w_members u_ pool d_ k_ = some r) : F__law_members [PyData.int u_, (ls PyData.int) pool, (ls PyData.int) d_, PyData.int k_] = some (.im ((tp PyData.int) r)) := by
  unfold f_w_members at h
  refine t_fnI (enc := (tp PyData.int)) rfl ?_
  show wS _ [im (PyData.int u_), im ((ls PyData.int) pool), im ((ls PyData.int) d_), im (PyData.int k_), none, none] _
  obtain ⟨told1, h_told1, h⟩ := bnd h
  refine w_seq ((t_set (f := (tp PyData.int)) (v := []) (w := told1) h_told1 (tupI a0 (Nat.le_of_ble_eq_true rfl)) rfl ?_))
  show wS _ [im (PyData.int u_), im ((ls PyData.int) pool), im ((ls PyData.int) d_), im (PyData.int k_), im ((tp PyData.int) told1), none] _
  obtain ⟨is2, h_is2, h⟩ := bnd h
  obtain ⟨told16, hl, h⟩ := bnd h
  refine w_seq ((t_forS PyData.int is2 (fun x_1 (told_ : (List Int)) => f_w_members_L1 u_ pool d_ k_ x_1 told_) (fun (told_ : (List Int)) e => ∃ (o9 : Option PyData), e = [im (PyData.int u_), im ((ls PyData.int) pool), im ((ls PyData.int) d_), im (PyData.int k_), im ((tp PyData.int) told_), imo o9]) (rng1I cI h_is2) ⟨none, rfl⟩ hl (fun x_1 told_ s2_ h e he => ?_) (fun e he => ?_)))
  · obtain ⟨o9, rfl⟩ := he
    refine ⟨rfl, _, rfl, ?_⟩
    show wS _ [im (PyData.int u_), im ((ls PyData.int) pool), im ((ls PyData.int) d_), im (PyData.int k_), im ((tp PyData.int) told_), im (PyData.int x_1)] _
    replace h : f_w_members_L1 u_ pool d_ k_ x_1 told_ = some s2_ := h
    unfold f_w_members_L1 at h
    obtain ⟨t10, h_t10, h⟩ := bnd h
    obtain ⟨t11, h_t11, h⟩ := bnd h
    obtain ⟨t12, h_t12, h⟩ := bnd h
    obtain ⟨told14, h_t13, h⟩ := bnd h
    refine (t_set (f := (tp PyData.int)) (v := told14) (w := told14) rfl (binX (vI rfl) (binX (tupI (aI (binX (vI rfl) (vI rfl) rfl rfl (o_ixL (f := PyData.int) (l := pool) h_t10)) a0) (Nat.le_of_ble_eq_true rfl)) (binX (binX (vI rfl) (binX (vI rfl) (vI rfl) rfl rfl e_add) rfl rfl (o_ixL (f := PyData.int) (l := d_) h_t11)) cI rfl rfl (e_mod (by decide))) rfl rfl (o_repT (f := PyData.int) (l := [t10]) h_t12)) rfl rfl (o_catT (f := PyData.int) (l := told_) (m := t12) h_t13)) rfl ?_)
    cases h
    exact ⟨some (PyData.int x_1), rfl⟩
  · obtain ⟨o17, rfl⟩ := he
    show wS _ [im (PyData.int u_), im ((ls PyData.int) pool), im ((ls PyData.int) d_), im (PyData.int k_), im ((tp PyData.int) told16), imo o17] _
    obtain ⟨t18, h_t18, h⟩ := bnd h
    refine w_seq ((w_if (b := (decide ((t18 % (4 : Int)) = (0 : Int)))) (bang (binX (binX (binX (vI rfl) (binX (vI rfl) cI rfl rfl e_add) rfl rfl (o_ixL (f := PyData.int) (l := d_) h_t18)) cI rfl rfl (e_mod (by decide))) cI rfl rfl e_eq)) (fun hc19 => ?_) (fun hc19 => ?_)))
    · rw [if1 hc19] at h
      obtain ⟨t20, h_t20, h⟩ := bnd h
      obtain ⟨t21, h_t21, h⟩ := bnd h
      obtain ⟨t22, h_t22, h⟩ := bnd h
      obtain ⟨told24, h_t23, h⟩ := bnd h
      refine (t_set (f := (tp PyData.int)) (v := told24) (w := told24) rfl (binX (vI rfl) (binX (tupI (aI (binX (vI rfl) (binX (binX (vI rfl) (binX (vI rfl) cI rfl rfl e_add) rfl rfl (o_ixL (f := PyData.int) (l := d_) h_t20)) cI rfl rfl (e_mod (by decide))) rfl rfl (o_ixL (f := PyData.int) (l := pool) h_t21)) a0) (Nat.le_of_ble_eq_true rfl)) (vI rfl) rfl rfl (o_repT (f := PyData.int) (l := [t21]) h_t22)) rfl rfl (o_catT (f := PyData.int) (l := told16) (m := t22) h_t23)) rfl ?_)
      show wS _ [im (PyData.int u_), im ((ls PyData.int) pool), im ((ls PyData.int) d_), im (PyData.int k_), im ((tp PyData.int) told24), imo o17] _
      obtain ⟨t25, h_t25, h⟩ := bnd h
      cases h
      refine w_seq ((w_ret (callI (aI (vI rfl) (aI (vI rfl) a0)) rfl (k__law_cut h_t25)) ?_))
      exact rfl
    · rw [if0 hc19] at h
      refine w_nx ?_
      show wS _ [im (PyData.int u_), im ((ls PyData.int) pool), im ((ls PyData.int) d_), im (PyData.int k_), im ((tp PyData.int) told16), imo o17] _
      obtain ⟨t26, h_t26, h⟩ := bnd h
      cases h
      refine w_seq ((w_ret (callI (aI (vI rfl) (aI (vI rfl) a0)) rfl (k__law_cut h_t26)) ?_))
      exact rfl
theorem k_is_row {thing : (List Int)} {r : Bool} (h : f_is_row thing = some r) : F_is_row [(tp PyData.int) thing] = some (.im (PyData.bool r)) := by
  unfold f_is_row at h
  refine t_fnI (enc := PyData.bool) rfl ?_
  show wS _ [im ((tp PyData.int) thing), none, none] _
  refine w_seq ((w_if (b := (!true)) (tnot (bang (isX (vI rfl) rfl rfl))) (fun hc1 => ?_) (fun hc1 => ?_)))
  · rw [if1 hc1] at h
    cases h
    refine (w_ret cI ?_)
    exact rfl
  · rw [if0 hc1] at h
    refine w_nx ?_
    show wS _ [im ((tp PyData.int) thing), none, none] _
    obtain ⟨t4, h_t4, h⟩ := bnd h
    refine w_seq ((w_if (b := (!(t4.all id))) (tnot (bang (cbX (dX (lcX (enc := PyData.int) (encB := PyData.bool) h_t4 (seqTX (f := PyData.int) (l := thing) (vI rfl)) rfl (fun x2 _ => ⟨_, rfl, rfl, fun _ hq => (by have hq := Option.some.inj hq; subst hq; rfl), fun _ _ hq => (by obtain ⟨t3, h_t3, hq⟩ := bnd hq; have hq := Option.some.inj hq; subst hq; exact ⟨_, (callI (aI (vI rfl) a0) rfl (k_is_natural h_t3)), rfl, rfl⟩)⟩)) d0 rfl) (o_allL (l := t4))))) (fun hc5 => ?_) (fun hc5 => ?_)))
    · rw [if1 hc5] at h
      cases h
      refine (w_ret cI ?_)
      exact rfl
    · rw [if0 hc5] at h
      refine w_nx ?_
      show wS _ [im ((tp PyData.int) thing), none, none] _
      obtain ⟨is6, h_is6, h⟩ := bnd h
      obtain ⟨t10, h_t10, h⟩ := bnd h
      cases h
      refine w_seq ((w_ret (cbX (dX (lcX (enc := PyData.int) (encB := PyData.bool) h_t10 (rng1I (binX (cbX (dX (vI rfl) d0 rfl) (o_lenT (f := PyData.int) (l := thing))) cI rfl rfl e_sub) h_is6) rfl (fun x7 _ => ⟨_, rfl, rfl, fun _ hq => (by have hq := Option.some.inj hq; subst hq; rfl), fun _ _ hq => (by obtain ⟨t8, h_t8, hq⟩ := bnd hq; obtain ⟨t9, h_t9, hq⟩ := bnd hq; have hq := Option.some.inj hq; subst hq; exact ⟨_, (binX (binX (vI rfl) (vI rfl) rfl rfl (o_ixT (f := PyData.int) (l := thing) h_t8)) (binX (vI rfl) (binX (vI rfl) cI rfl rfl e_add) rfl rfl (o_ixT (f := PyData.int) (l := thing) h_t9)) rfl rfl e_qge), rfl, rfl⟩)⟩)) d0 rfl) (o_allL (l := t10))) ?_))
      exact rfl
theorem k_row_of {width : Int} {number : Int} {r : (List Int)} (h : f_row_of width number = some r) : F_row_of [PyData.int width, PyData.int number] = some (.im ((tp PyData.int) r)) := by
  unfold f_row_of at h
  refine t_fnI (enc := (tp PyData.int)) rfl ?_
  show wS _ [im (PyData.int width), im (PyData.int number), none, none, none, none] _
  obtain ⟨t1, h_t1, h⟩ := bnd h
  refine w_seq ((w_if (b := (!t1)) (tnot (bang (callI (aI (vI rfl) a0) rfl (k_is_natural h_t1)))) (fun hc2 => ?_) (fun hc2 => ?_)))
  · rw [if1 hc2] at h
    cases h
  · rw [if0 hc2] at h
    refine w_nx ?_
    show wS _ [im (PyData.int width), im (PyData.int number), none, none, none, none] _
    obtain ⟨t3, h_t3, h⟩ := bnd h
    refine w_seq ((w_if (b := (!t3)) (tnot (bang (callI (aI (vI rfl) a0) rfl (k_is_number h_t3)))) (fun hc4 => ?_) (fun hc4 => ?_)))
    · rw [if1 hc4] at h
      cases h
    · rw [if0 hc4] at h
      refine w_nx ?_
      show wS _ [im (PyData.int width), im (PyData.int number), none, none, none, none] _
      obtain ⟨members5, h_members5, h⟩ := bnd h
      refine w_seq ((t_setA (f := PyData.int) (v := []) (w := members5) h_members5 (lstX a0 (Nat.le_of_ble_eq_true rfl)) rfl ?_))
      show wS _ [im (PyData.int width), im (PyData.int number), ac (members5.map PyData.int), none, none, none] _
      obtain ⟨rest6, h_rest6, h⟩ := bnd h
      refine w_seq ((t_set (f := PyData.int) (v := number) (w := rest6) h_rest6 (vI rfl) rfl ?_))
      show wS _ [im (PyData.int width), im (PyData.int number), ac (members5.map PyData.int), im (PyData.int rest6), none, none] _
      obtain ⟨few7, h_few7, h⟩ := bnd h
      refine w_seq ((t_set (f := PyData.int) (v := width) (w := few7) h_few7 (vI rfl) rfl ?_))
      show wS _ [im (PyData.int width), im (PyData.int number), ac (members5.map PyData.int), im (PyData.int rest6), im (PyData.int few7), none] _
      obtain ⟨s22, hl, h⟩ := bnd h
      refine w_seq ((t_whS (fun (s_ : (List Int) × Int × Int) => f_row_of_L1c s_.1 s_.2.1 s_.2.2) (fun (s_ : (List Int) × Int × Int) => f_row_of_L1 s_.1 s_.2.1 s_.2.2) (fun (s_ : (List Int) × Int × Int) e => ∃ (o15 : Option PyData), e = [im (PyData.int width), im (PyData.int number), ac (s_.1.map PyData.int), im (PyData.int s_.2.1), im (PyData.int s_.2.2), imo o15]) (N := (rest6.toNat + 1)) rfl ⟨none, rfl⟩ hl (fun s_ b_ h e he => ?_) (fun s_ s2_ h e he => ?_) (fun e he => ?_)))
      · obtain ⟨o15, rfl⟩ := he
        obtain ⟨members_, rest_, few_⟩ := s_
        replace h : f_row_of_L1c members_ rest_ few_ = some b_ := h
        unfold f_row_of_L1c at h
        cases h
        exact (bang (binX (vI rfl) cI rfl rfl e_qgt))
      · obtain ⟨o15, rfl⟩ := he
        obtain ⟨members_, rest_, few_⟩ := s_
        show wS _ [im (PyData.int width), im (PyData.int number), ac (members_.map PyData.int), im (PyData.int rest_), im (PyData.int few_), imo o15] _
        replace h : f_row_of_L1 members_ rest_ few_ = some s2_ := h
        unfold f_row_of_L1 at h
        obtain ⟨member17, h_t16, h⟩ := bnd h
        refine w_seq ((t_set (f := PyData.int) (v := member17) (w := member17) rfl (callI (aI (vI rfl) (aI (vI rfl) a0)) rfl (k__greatest_member h_t16)) rfl ?_))
        show wS _ [im (PyData.int width), im (PyData.int number), ac (members_.map PyData.int), im (PyData.int rest_), im (PyData.int few_), im (PyData.int member17)] _
        obtain ⟨members18, h_members18, h⟩ := bnd h
        refine w_seq ((t_app (f := PyData.int) (l := members_) (a := member17) h_members18 ⟨_, (vI rfl), rfl⟩ rfl rfl ?_))
        show wS _ [im (PyData.int width), im (PyData.int number), ac (members18.map PyData.int), im (PyData.int rest_), im (PyData.int few_), im (PyData.int member17)] _
        obtain ⟨t19, h_t19, h⟩ := bnd h
        obtain ⟨rest20, h_rest20, h⟩ := bnd h
        refine w_seq ((t_set (f := PyData.int) (v := (rest_ - t19)) (w := rest20) h_rest20 (binX (vI rfl) (cbX (dX (binX (binX (vI rfl) (vI rfl) rfl rfl e_add) cI rfl rfl e_sub) (dX (vI rfl) d0 rfl) rfl) (o_comb h_t19)) rfl rfl e_sub) rfl ?_))
        show wS _ [im (PyData.int width), im (PyData.int number), ac (members18.map PyData.int), im (PyData.int rest20), im (PyData.int few_), im (PyData.int member17)] _
        obtain ⟨few21, h_few21, h⟩ := bnd h
        refine w_seq ((t_set (f := PyData.int) (v := (few_ - (1 : Int))) (w := few21) h_few21 (binX (vI rfl) cI rfl rfl e_sub) rfl ?_))
        show wS _ [im (PyData.int width), im (PyData.int number), ac (members18.map PyData.int), im (PyData.int rest20), im (PyData.int few21), im (PyData.int member17)] _
        refine w_nx ?_
        cases h
        exact ⟨some (PyData.int member17), rfl⟩
      · obtain ⟨o23, rfl⟩ := he
        show wS _ [im (PyData.int width), im (PyData.int number), ac (s22.1.map PyData.int), im (PyData.int s22.2.1), im (PyData.int s22.2.2), imo o23] _
        cases h
        refine w_seq ((w_ret (cbX (dX (vB rfl) d0 rfl) rfl) ?_))
        exact rfl
theorem k_capacity {width : Int} {reach : Int} {r : Int} (h : f_capacity width reach = some r) : F_capacity [PyData.int width, PyData.int reach] = some (.im (PyData.int r)) := by
  unfold f_capacity at h
  refine t_fnI (enc := PyData.int) rfl ?_
  show wS _ [im (PyData.int width), im (PyData.int reach)] _
  obtain ⟨t1, h_t1, h⟩ := bnd h
  refine w_seq ((w_if (b := (!t1)) (tnot (bang (callI (aI (vI rfl) a0) rfl (k_is_natural h_t1)))) (fun hc2 => ?_) (fun hc2 => ?_)))
  · rw [if1 hc2] at h
    cases h
  · rw [if0 hc2] at h
    refine w_nx ?_
    show wS _ [im (PyData.int width), im (PyData.int reach)] _
    obtain ⟨t3, h_t3, h⟩ := bnd h
    refine w_seq ((w_if (b := (!t3)) (tnot (bang (callI (aI (vI rfl) a0) rfl (k_is_natural h_t3)))) (fun hc4 => ?_) (fun hc4 => ?_)))
    · rw [if1 hc4] at h
      cases h
    · rw [if0 hc4] at h
      refine w_nx ?_
      show wS _ [im (PyData.int width), im (PyData.int reach)] _
      obtain ⟨t5, h_t5, h⟩ := bnd h
      cases h
      refine w_seq ((w_ret (cbX (dX (binX (vI rfl) (vI rfl) rfl rfl e_add) (dX (vI rfl) d0 rfl) rfl) (o_comb h_t5)) ?_))
      exact rfl
theorem k_merged {rows : (List (List Int))} {r : (List Int)} (h : f_merged rows = some r) : F_merged [(tp (tp PyData.int)) rows] = some (.im ((tp PyData.int) r)) := by
  unfold f_merged at h
  refine t_fnI (enc := (tp PyData.int)) rfl ?_
  show wS _ [im ((tp (tp PyData.int)) rows), none, none] _
  obtain ⟨t4, h_t4, h⟩ := bnd h
  refine w_seq ((w_if (b := t4) (torX (tnot (bang (isX (vI rfl) rfl rfl))) h_t4 (fun _ _ hq => (by obtain ⟨t3, h_t3, hq⟩ := bnd hq; have hq := Option.some.inj hq; subst hq; exact (tnot (bang (cbX (dX (lcX (enc := (tp PyData.int)) (encB := PyData.bool) h_t3 (seqTX (f := (tp PyData.int)) (l := rows) (vI rfl)) rfl (fun x1 _ => ⟨_, rfl, rfl, fun _ hq => (by have hq := Option.some.inj hq; subst hq; rfl), fun _ _ hq => (by obtain ⟨t2, h_t2, hq⟩ := bnd hq; have hq := Option.some.inj hq; subst hq; exact ⟨_, (callI (aI (vI rfl) a0) rfl (k_is_row h_t2)), rfl, rfl⟩)⟩)) d0 rfl) (o_allL (l := t3)))))))) (fun hc5 => ?_) (fun hc5 => ?_)))
  · rw [if1 hc5] at h
    cases h
  · rw [if0 hc5] at h
    refine w_nx ?_
    show wS _ [im ((tp (tp PyData.int)) rows), none, none] _
    obtain ⟨t8, h_t8, h⟩ := bnd h
    obtain ⟨t9, h_t9, h⟩ := bnd h
    cases h
    refine w_seq ((w_ret (callI (aA (lc2X (enc := (tp PyData.int)) (enc1 := PyData.int) (encB := PyData.int) h_t8 (seqTX (f := (tp PyData.int)) (l := rows) (vI rfl)) rfl (fun x6 _ => ⟨_, rfl, rfl, fun _ hq => (by have hq := Option.some.inj hq; subst hq; rfl), fun _ _ hq => (by have hq := Option.some.inj hq; subst hq; exact ⟨(seqTX (f := PyData.int) (l := x6) (vI rfl)), rfl, rfl, (fun y7 _ => ⟨_, rfl, rfl, fun _ hq => (by have hq := Option.some.inj hq; subst hq; rfl), fun _ _ hq => (by have hq := Option.some.inj hq; subst hq; exact ⟨_, (vI rfl), rfl, rfl⟩)⟩)⟩)⟩)) a0) rfl (k_falling h_t9)) ?_))
    exact rfl
theorem k__check_row {width : Int} {row : (List Int)} {r : Unit} (h : f_check_row width row = some r) : F__check_row [PyData.int width, (tp PyData.int) row] = some (.im (nn r)) := by
  unfold f_check_row at h
  refine t_fnI (enc := nn) rfl ?_
  show wS _ [im (PyData.int width), im ((tp PyData.int) row)] _
  obtain ⟨t1, h_t1, h⟩ := bnd h
  refine w_seq ((w_if (b := (!t1)) (tnot (bang (callI (aI (vI rfl) a0) rfl (k_is_natural h_t1)))) (fun hc2 => ?_) (fun hc2 => ?_)))
  · rw [if1 hc2] at h
    cases h
  · rw [if0 hc2] at h
    refine w_nx ?_
    show wS _ [im (PyData.int width), im ((tp PyData.int) row)] _
    obtain ⟨t3, h_t3, h⟩ := bnd h
    refine w_seq ((w_if (b := ((!t3) || (decide (width < (row.length : Int))))) (torXt (tnot (bang (callI (aI (vI rfl) a0) rfl (k_is_row h_t3)))) (bang (binX (cbX (dX (vI rfl) d0 rfl) (o_lenT (f := PyData.int) (l := row))) (vI rfl) rfl rfl e_qgt))) (fun hc4 => ?_) (fun hc4 => ?_)))
    · rw [if1 hc4] at h
      cases h
    · rw [if0 hc4] at h
      refine w_nx ?_
      show wS _ [im (PyData.int width), im ((tp PyData.int) row)] _
      refine w_nx ?_
      cases h
      exact rfl
theorem k_number_of {width : Int} {row : (List Int)} {r : Int} (h : f_number_of width row = some r) : F_number_of [PyData.int width, (tp PyData.int) row] = some (.im (PyData.int r)) := by
  unfold f_number_of at h
  refine t_fnI (enc := PyData.int) rfl ?_
  show wS _ [im (PyData.int width), im ((tp PyData.int) row), none, none, none] _
  obtain ⟨t1, h_t1, h⟩ := bnd h
  refine w_seq ((w_drop (callI (aI (vI rfl) (aI (vI rfl) a0)) rfl (k__check_row h_t1)) ?_))
  show wS _ [im (PyData.int width), im ((tp PyData.int) row), none, none, none] _
  obtain ⟨number2, h_number2, h⟩ := bnd h
  refine w_seq ((t_set (f := PyData.int) (v := (0 : Int)) (w := number2) h_number2 cI rfl ?_))
  show wS _ [im (PyData.int width), im ((tp PyData.int) row), im (PyData.int number2), none, none] _
  obtain ⟨number12, hl, h⟩ := bnd h
  refine w_seq ((t_forS (p2 PyData.int PyData.int) (enumL row) (fun x_1 (number_ : Int) => f_number_of_L1 width row x_1 number_) (fun (number_ : Int) e => ∃ (o7 : Option PyData) (o8 : Option PyData), e = [im (PyData.int width), im ((tp PyData.int) row), im (PyData.int number_), imo o7, imo o8]) (enumI (f := PyData.int) (l := row) (seqTX (f := PyData.int) (l := row) (vI rfl))) ⟨none, none, rfl⟩ hl (fun x_1 number_ s2_ h e he => ?_) (fun e he => ?_)))
  · obtain ⟨o7, o8, rfl⟩ := he
    refine ⟨rfl, _, rfl, ?_⟩
    show wS _ [im (PyData.int width), im ((tp PyData.int) row), im (PyData.int number_), im (PyData.int x_1.1), im (PyData.int x_1.2)] _
    replace h : f_number_of_L1 width row x_1 number_ = some s2_ := h
    unfold f_number_of_L1 at h
    obtain ⟨t9, h_t9, h⟩ := bnd h
    obtain ⟨number10, h_number10, h⟩ := bnd h
    refine (t_set (f := PyData.int) (v := (number_ + t9)) (w := number10) h_number10 (binX (vI rfl) (cbX (dX (binX (binX (binX (vI rfl) (vI rfl) rfl rfl e_add) (vI rfl) rfl rfl e_sub) cI rfl rfl e_sub) (dX (binX (vI rfl) (vI rfl) rfl rfl e_sub) d0 rfl) rfl) (o_comb h_t9)) rfl rfl e_add) rfl ?_)
    cases h
    exact ⟨some (PyData.int x_1.1), some (PyData.int x_1.2), rfl⟩
  · obtain ⟨o13, o14, rfl⟩ := he
    show wS _ [im (PyData.int width), im ((tp PyData.int) row), im (PyData.int number12), imo o13, imo o14] _
    cases h
    refine w_seq ((w_ret (vI rfl) ?_))
    exact rfl
theorem k_joined {width : Int} {one : Int} {other : Int} {r : Int} (h : f_joined width one other = some r) : F_joined [PyData.int width, PyData.int one, PyData.int other] = some (.im (PyData.int r)) := by
  unfold f_joined at h
  refine t_fnI (enc := PyData.int) rfl ?_
  show wS _ [im (PyData.int width), im (PyData.int one), im (PyData.int other), none] _
  obtain ⟨t1, h_t1, h⟩ := bnd h
  refine w_seq ((w_if (b := (!t1)) (tnot (bang (callI (aI (vI rfl) a0) rfl (k_is_natural h_t1)))) (fun hc2 => ?_) (fun hc2 => ?_)))
  · rw [if1 hc2] at h
    cases h
  · rw [if0 hc2] at h
    refine w_nx ?_
    show wS _ [im (PyData.int width), im (PyData.int one), im (PyData.int other), none] _
    obtain ⟨t3, h_t3, h⟩ := bnd h
    refine w_seq ((w_if (b := (!t3)) (tnot (bang (callI (aI (vI rfl) a0) rfl (k_is_number h_t3)))) (fun hc4 => ?_) (fun hc4 => ?_)))
    · rw [if1 hc4] at h
      cases h
    · rw [if0 hc4] at h
      refine w_nx ?_
      show wS _ [im (PyData.int width), im (PyData.int one), im (PyData.int other), none] _
      obtain ⟨t5, h_t5, h⟩ := bnd h
      refine w_seq ((w_if (b := (!t5)) (tnot (bang (callI (aI (vI rfl) a0) rfl (k_is_number h_t5)))) (fun hc6 => ?_) (fun hc6 => ?_)))
      · rw [if1 hc6] at h
        cases h
      · rw [if0 hc6] at h
        refine w_nx ?_
        show wS _ [im (PyData.int width), im (PyData.int one), im (PyData.int other), none] _
        obtain ⟨t7, h_t7, h⟩ := bnd h
        obtain ⟨t8, h_t8, h⟩ := bnd h
        obtain ⟨row10, h_t9, h⟩ := bnd h
        refine w_seq ((t_set (f := (tp PyData.int)) (v := row10) (w := row10) rfl (callI (aI (tupI (aI (callI (aI (vI rfl) (aI (vI rfl) a0)) rfl (k_row_of h_t7)) (aI (callI (aI (vI rfl) (aI (vI rfl) a0)) rfl (k_row_of h_t8)) a0)) (Nat.le_of_ble_eq_true rfl)) a0) rfl (k_merged h_t9)) rfl ?_))
        show wS _ [im (PyData.int width), im (PyData.int one), im (PyData.int other), im ((tp PyData.int) row10)] _
        obtain ⟨t11, h_t11, h⟩ := bnd h
        cases h
        refine w_seq ((w_ret (callI (aI (vI rfl) (aI (cutTX (f := PyData.int) (l := row10) (vI rfl) oN (oA (vI rfl))) a0)) rfl (k_number_of h_t11)) ?_))
        exact rfl
theorem k_joined_all {width : Int} {numbers : (List Int)} {r : Int} (h : f_joined_all width numbers = some r) : F_joined_all [PyData.int width, (tp PyData.int) numbers] = some (.im (PyData.int r)) := by
  unfold f_joined_all at h
  refine t_fnI (enc := PyData.int) rfl ?_
  show wS _ [im (PyData.int width), im ((tp PyData.int) numbers), none, none] _
  obtain ⟨t1, h_t1, h⟩ := bnd h
  refine w_seq ((w_if (b := (!t1)) (tnot (bang (callI (aI (vI rfl) a0) rfl (k_is_natural h_t1)))) (fun hc2 => ?_) (fun hc2 => ?_)))
  · rw [if1 hc2] at h
    cases h
  · rw [if0 hc2] at h
    refine w_nx ?_
    show wS _ [im (PyData.int width), im ((tp PyData.int) numbers), none, none] _
    obtain ⟨t6, h_t6, h⟩ := bnd h
    refine w_seq ((w_if (b := t6) (torX (tnot (bang (isX (vI rfl) rfl rfl))) h_t6 (fun _ _ hq => (by obtain ⟨t5, h_t5, hq⟩ := bnd hq; have hq := Option.some.inj hq; subst hq; exact (tnot (bang (cbX (dX (lcX (enc := PyData.int) (encB := PyData.bool) h_t5 (seqTX (f := PyData.int) (l := numbers) (vI rfl)) rfl (fun x3 _ => ⟨_, rfl, rfl, fun _ hq => (by have hq := Option.some.inj hq; subst hq; rfl), fun _ _ hq => (by obtain ⟨t4, h_t4, hq⟩ := bnd hq; have hq := Option.some.inj hq; subst hq; exact ⟨_, (callI (aI (vI rfl) a0) rfl (k_is_number h_t4)), rfl, rfl⟩)⟩)) d0 rfl) (o_allL (l := t5)))))))) (fun hc7 => ?_) (fun hc7 => ?_)))
    · rw [if1 hc7] at h
      cases h
    · rw [if0 hc7] at h
      refine w_nx ?_
      show wS _ [im (PyData.int width), im ((tp PyData.int) numbers), none, none] _
      obtain ⟨t10, h_t10, h⟩ := bnd h
      obtain ⟨row12, h_t11, h⟩ := bnd h
      refine w_seq ((t_set (f := (tp PyData.int)) (v := row12) (w := row12) rfl (callI (aI (cbX (dX (lcX (enc := PyData.int) (encB := (tp PyData.int)) h_t10 (seqTX (f := PyData.int) (l := numbers) (vI rfl)) rfl (fun x8 _ => ⟨_, rfl, rfl, fun _ hq => (by have hq := Option.some.inj hq; subst hq; rfl), fun _ _ hq => (by obtain ⟨t9, h_t9, hq⟩ := bnd hq; have hq := Option.some.inj hq; subst hq; exact ⟨_, (callI (aI (vI rfl) (aI (vI rfl) a0)) rfl (k_row_of h_t9)), rfl, rfl⟩)⟩)) d0 rfl) rfl) a0) rfl (k_merged h_t11)) rfl ?_))
      show wS _ [im (PyData.int width), im ((tp PyData.int) numbers), im ((tp PyData.int) row12), none] _
      obtain ⟨t13, h_t13, h⟩ := bnd h
      cases h
      refine w_seq ((w_ret (callI (aI (vI rfl) (aI (cutTX (f := PyData.int) (l := row12) (vI rfl) oN (oA (vI rfl))) a0)) rfl (k_number_of h_t13)) ?_))
      exact rfl
theorem k_joined_many {width : Int} {number : Int} {many : Int} {r : Int} (h : f_joined_many width number many = some r) : F_joined_many [PyData.int width, PyData.int number, PyData.int many] = some (.im (PyData.int r)) := by
  unfold f_joined_many at h
  refine t_fnI (enc := PyData.int) rfl ?_
  show wS _ [im (PyData.int width), im (PyData.int number), im (PyData.int many), none, none, none] _
  obtain ⟨t1, h_t1, h⟩ := bnd h
  refine w_seq ((w_if (b := (!t1)) (tnot (bang (callI (aI (vI rfl) a0) rfl (k_is_natural h_t1)))) (fun hc2 => ?_) (fun hc2 => ?_)))
  · rw [if1 hc2] at h
    cases h
  · rw [if0 hc2] at h
    refine w_nx ?_
    show wS _ [im (PyData.int width), im (PyData.int number), im (PyData.int many), none, none, none] _
    obtain ⟨t3, h_t3, h⟩ := bnd h
    refine w_seq ((w_if (b := (!t3)) (tnot (bang (callI (aI (vI rfl) a0) rfl (k_is_number h_t3)))) (fun hc4 => ?_) (fun hc4 => ?_)))
    · rw [if1 hc4] at h
      cases h
    · rw [if0 hc4] at h
      refine w_nx ?_
      show wS _ [im (PyData.int width), im (PyData.int number), im (PyData.int many), none, none, none] _
      obtain ⟨t5, h_t5, h⟩ := bnd h
      refine w_seq ((w_if (b := (!t5)) (tnot (bang (callI (aI (vI rfl) a0) rfl (k_is_number h_t5)))) (fun hc6 => ?_) (fun hc6 => ?_)))
      · rw [if1 hc6] at h
        cases h
      · rw [if0 hc6] at h
        refine w_nx ?_
        show wS _ [im (PyData.int width), im (PyData.int number), im (PyData.int many), none, none, none] _
        obtain ⟨copies8, h_t7, h⟩ := bnd h
        refine w_seq ((t_set (f := PyData.int) (v := copies8) (w := copies8) rfl (ifX (f := PyData.int) (bang (binX (vI rfl) (vI rfl) rfl rfl e_qlt)) h_t7 (fun _ _ hq => (by have hq := Option.some.inj hq; subst hq; exact (vI rfl))) (fun _ _ hq => (by have hq := Option.some.inj hq; subst hq; exact (vI rfl)))) rfl ?_))
        show wS _ [im (PyData.int width), im (PyData.int number), im (PyData.int many), im (PyData.int copies8), none, none] _
        obtain ⟨own10, h_t9, h⟩ := bnd h
        refine w_seq ((t_set (f := (tp PyData.int)) (v := own10) (w := own10) rfl (callI (aI (vI rfl) (aI (vI rfl) a0)) rfl (k_row_of h_t9)) rfl ?_))
        show wS _ [im (PyData.int width), im (PyData.int number), im (PyData.int many), im (PyData.int copies8), im ((tp PyData.int) own10), none] _
        obtain ⟨t11, h_t11, h⟩ := bnd h
        obtain ⟨row13, h_t12, h⟩ := bnd h
        refine w_seq ((t_set (f := (tp PyData.int)) (v := row13) (w := row13) rfl (callI (aI (binX (tupI (aI (vI rfl) a0) (Nat.le_of_ble_eq_true rfl)) (vI rfl) rfl rfl (o_repT (f := (tp PyData.int)) (l := [own10]) h_t11)) a0) rfl (k_merged h_t12)) rfl ?_))
        show wS _ [im (PyData.int width), im (PyData.int number), im (PyData.int many), im (PyData.int copies8), im ((tp PyData.int) own10), im ((tp PyData.int) row13)] _
        obtain ⟨t14, h_t14, h⟩ := bnd h
        cases h
        refine w_seq ((w_ret (callI (aI (vI rfl) (aI (cutTX (f := PyData.int) (l := row13) (vI rfl) oN (oA (vI rfl))) a0)) rfl (k_number_of h_t14)) ?_))
        exact rfl
theorem k__law_small {u_ : Int} {c_ : Int} {d_ : (List Int)} {r : Bool} (h : f_w_small u_ c_ d_ = some r) : F__law_small [PyData.int u_, PyData.int c_, (ls PyData.int) d_] = some (.im (PyData.bool r)) := by
  unfold f_w_small at h
  refine t_fnI (enc := PyData.bool) rfl ?_
  show wS _ [im (PyData.int u_), im (PyData.int c_), im ((ls PyData.int) d_), none, none, none, none, none, none, none, none, none, none] _
  obtain ⟨listed2, h_t1, h⟩ := bnd h
  refine w_seq ((t_setL (f := (tp PyData.int)) (v := listed2) (w := listed2) rfl (callA (aI (vI rfl) (aI (vI rfl) a0)) rfl (k__law_listed h_t1)) rfl ?_))
  show wS _ [im (PyData.int u_), im (PyData.int c_), im ((ls PyData.int) d_), im ((ls (tp PyData.int)) listed2), none, none, none, none, none, none, none, none, none] _
  obtain ⟨t3, h_t3, h⟩ := bnd h
  obtain ⟨x_5, h_t4, h⟩ := bnd h
  refine w_seq ((t_set (f := PyData.int) (v := x_5) (w := x_5) rfl (binX (binX (vI rfl) cI rfl rfl (o_ixL (f := PyData.int) (l := d_) h_t3)) (cbX (dX (vI rfl) d0 rfl) (o_lenL (f := (tp PyData.int)) (l := listed2))) rfl rfl (o_mod h_t4)) rfl ?_))
  show wS _ [im (PyData.int u_), im (PyData.int c_), im ((ls PyData.int) d_), im ((ls (tp PyData.int)) listed2), im (PyData.int x_5), none, none, none, none, none, none, none, none] _
  obtain ⟨is6, h_is6, h⟩ := bnd h
  obtain ⟨l_, hl, h⟩ := bnd h
  refine w_seq ((t_forG PyData.int is6 (fun x_1 (listed_ : (List (List Int))) => f_w_small_L1 u_ d_ x_5 x_1 listed_) (fun (listed_ : (List (List Int))) e => ∃ (o21 : Option PyData) (o22 : Option PyData), e = [im (PyData.int u_), im (PyData.int c_), im ((ls PyData.int) d_), im ((ls (tp PyData.int)) listed_), im (PyData.int x_5), imo o21, none, none, none, imo o22, none, none, none]) (rtI PyData.bool) (rng1I (cbX (dX (vI rfl) d0 rfl) (o_lenL (f := (tp PyData.int)) (l := listed2))) h_is6) ⟨none, none, rfl⟩ hl (fun x_1 listed_ l2_ h e he => ?_) (fun listed36 hs e he => ?_) (fun r_ hs r2_ e hr => ?_)))
  · obtain ⟨o21, o22, rfl⟩ := he
    refine ⟨rfl, _, rfl, ?_⟩
    show wS _ [im (PyData.int u_), im (PyData.int c_), im ((ls PyData.int) d_), im ((ls (tp PyData.int)) listed_), im (PyData.int x_5), im (PyData.int x_1), none, none, none, imo o22, none, none, none] _
    replace h : f_w_small_L1 u_ d_ x_5 x_1 listed_ = some l2_ := h
    unfold f_w_small_L1 at h
    obtain ⟨t23, h_t23, h⟩ := bnd h
    obtain ⟨t24, h_t24, h⟩ := bnd h
    obtain ⟨t25, h_t25, h⟩ := bnd h
    obtain ⟨t26, h_t26, h⟩ := bnd h
    obtain ⟨due28, h_t27, h⟩ := bnd h
    refine w_seq ((t_set (f := PyData.int) (v := due28) (w := due28) rfl (indexX (f := (tp PyData.int)) (l := listed_) (a := t26) (by decide) (by decide) h_t27 (vI rfl) rfl (callI (aI (vI rfl) (aI (binX (binX (vI rfl) (vI rfl) rfl rfl (o_ixL (f := (tp PyData.int)) (l := listed_) h_t23)) (binX (vI rfl) (vI rfl) rfl rfl (o_ixL (f := (tp PyData.int)) (l := listed_) h_t24)) rfl rfl (o_catT (f := PyData.int) (l := t23) (m := t24) h_t25)) a0)) rfl (k__law_cut h_t26)) rfl) rfl ?_))
    show wS _ [im (PyData.int u_), im (PyData.int c_), im ((ls PyData.int) d_), im ((ls (tp PyData.int)) listed_), im (PyData.int x_5), im (PyData.int x_1), none, none, none, im (PyData.int due28), none, none, none] _
    obtain ⟨t29, h_t29, h⟩ := bnd h
    obtain ⟨t30, h_t30, h⟩ := bnd h
    obtain ⟨t33, h_t33, h⟩ := bnd h
    refine w_seq ((w_if (b := t33) (torX (tnot (bang (callI (aI (callI (aI (vI rfl) (aI (vI rfl) (aI (vI rfl) a0))) rfl (k_joined h_t29)) (aI (vI rfl) a0)) rfl (k__law_is h_t30)))) h_t33 (fun _ _ hq => (by obtain ⟨t31, h_t31, hq⟩ := bnd hq; obtain ⟨t32, h_t32, hq⟩ := bnd hq; have hq := Option.some.inj hq; subst hq; exact (tnot (bang (callI (aI (callKI a0 (aI (vI rfl) (aI (vI rfl) (aI (vI rfl) a0))) rfl (k_joined h_t31)) (aI (vI rfl) a0)) rfl (k__law_is h_t32))))))) (fun hc34 => ?_) (fun hc34 => ?_)))
    · rw [if1 hc34] at h
      cases h
      refine (w_ret cI ?_)
      exact rfl
    · rw [if0 hc34] at h
      refine w_nx ?_
      show wS _ [im (PyData.int u_), im (PyData.int c_), im ((ls PyData.int) d_), im ((ls (tp PyData.int)) listed_), im (PyData.int x_5), im (PyData.int x_1), none, none, none, im (PyData.int due28), none, none, none] _
      refine w_nx ?_
      cases h
      exact ⟨some (PyData.int x_1), some (PyData.int due28), rfl⟩
  · subst hs
    replace h : _ = some r := h
    dsimp only at h
    obtain ⟨o37, o38, rfl⟩ := he
    show wS _ [im (PyData.int u_), im (PyData.int c_), im ((ls PyData.int) d_), im ((ls (tp PyData.int)) listed36), im (PyData.int x_5), imo o37, none, none, none, imo o38, none, none, none] _
    obtain ⟨t39, h_t39, h⟩ := bnd h
    obtain ⟨size40, h_size40, h⟩ := bnd h
    refine w_seq ((t_set (f := PyData.int) (v := (t39 % (9 : Int))) (w := size40) h_size40 (binX (binX (vI rfl) cI rfl rfl (o_ixL (f := PyData.int) (l := d_) h_t39)) cI rfl rfl (e_mod (by decide))) rfl ?_))
    show wS _ [im (PyData.int u_), im (PyData.int c_), im ((ls PyData.int) d_), im ((ls (tp PyData.int)) listed36), im (PyData.int x_5), imo o37, im (PyData.int size40), none, none, imo o38, none, none, none] _
    obtain ⟨t41, h_t41, h⟩ := bnd h
    refine t_join (fun (size_ : Int) e => e = [im (PyData.int u_), im (PyData.int c_), im ((ls PyData.int) d_), im ((ls (tp PyData.int)) listed36), im (PyData.int x_5), imo o37, im (PyData.int size_), none, none, imo o38, none, none, none]) (fun (size_ : Int) => f_w_small_J1 u_ d_ listed36 x_5 size_) (t := r) (fun size_ e he h => ?_) ?_
    · subst he
      replace h : f_w_small_J1 u_ d_ listed36 x_5 size_ = some r := h
      unfold f_w_small_J1 at h
      show wS _ [im (PyData.int u_), im (PyData.int c_), im ((ls PyData.int) d_), im ((ls (tp PyData.int)) listed36), im (PyData.int x_5), imo o37, im (PyData.int size_), none, none, imo o38, none, none, none] _
      obtain ⟨is123, h_is123, h⟩ := bnd h
      obtain ⟨picked129, h_t128, h⟩ := bnd h
      refine w_seq ((t_setL (f := PyData.int) (v := picked129) (w := picked129) rfl (lcX (enc := PyData.int) (encB := PyData.int) h_t128 (rng1I (vI rfl) h_is123) rfl (fun x124 _ => ⟨_, rfl, rfl, fun _ hq => (by have hq := Option.some.inj hq; subst hq; rfl), fun _ _ hq => (by obtain ⟨t125, h_t125, hq⟩ := bnd hq; obtain ⟨t126, h_t126, hq⟩ := bnd hq; obtain ⟨t127, h_t127, hq⟩ := bnd hq; have hq := Option.some.inj hq; subst hq; exact ⟨_, (binX (binX (binX (vI rfl) (binX cI (binX (vI rfl) cI rfl rfl (e_mod (by decide))) rfl rfl e_add) rfl rfl (o_ixL (f := PyData.int) (l := d_) h_t125)) (binX (vI rfl) cI rfl rfl e_add) rfl rfl (mT (o_mul h_t126))) (cbX (dX (vI rfl) d0 rfl) (o_lenL (f := (tp PyData.int)) (l := listed36))) rfl rfl (o_mod h_t127)), rfl, rfl⟩)⟩)) rfl ?_))
      show wS _ [im (PyData.int u_), im (PyData.int c_), im ((ls PyData.int) d_), im ((ls (tp PyData.int)) listed36), im (PyData.int x_5), imo o37, im (PyData.int size_), im ((ls PyData.int) picked129), none, imo o38, none, none, none] _
      obtain ⟨merged130, h_merged130, h⟩ := bnd h
      refine w_seq ((t_set (f := (tp PyData.int)) (v := []) (w := merged130) h_merged130 (tupI a0 (Nat.le_of_ble_eq_true rfl)) rfl ?_))
      show wS _ [im (PyData.int u_), im (PyData.int c_), im ((ls PyData.int) d_), im ((ls (tp PyData.int)) listed36), im (PyData.int x_5), imo o37, im (PyData.int size_), im ((ls PyData.int) picked129), im ((tp PyData.int) merged130), imo o38, none, none, none] _
      obtain ⟨merged136, hl, h⟩ := bnd h
      refine w_seq ((t_forS PyData.int picked129 (fun x_2 (merged_ : (List Int)) => f_w_small_L2 u_ listed36 x_5 picked129 x_2 merged_) (fun (merged_ : (List Int)) e => ∃ (o131 : Option PyData), e = [im (PyData.int u_), im (PyData.int c_), im ((ls PyData.int) d_), im ((ls (tp PyData.int)) listed36), im (PyData.int x_5), imo o131, im (PyData.int size_), im ((ls PyData.int) picked129), im ((tp PyData.int) merged_), imo o38, none, none, none]) (seqLX (f := PyData.int) (l := picked129) (vI rfl)) ⟨o37, rfl⟩ hl (fun x_2 merged_ s2_ h e he => ?_) (fun e he => ?_)))
      · obtain ⟨o131, rfl⟩ := he
        refine ⟨rfl, _, rfl, ?_⟩
        show wS _ [im (PyData.int u_), im (PyData.int c_), im ((ls PyData.int) d_), im ((ls (tp PyData.int)) listed36), im (PyData.int x_5), im (PyData.int x_2), im (PyData.int size_), im ((ls PyData.int) picked129), im ((tp PyData.int) merged_), imo o38, none, none, none] _
        replace h : f_w_small_L2 u_ listed36 x_5 picked129 x_2 merged_ = some s2_ := h
        unfold f_w_small_L2 at h
        obtain ⟨t132, h_t132, h⟩ := bnd h
        obtain ⟨merged134, h_t133, h⟩ := bnd h
        refine (t_set (f := (tp PyData.int)) (v := merged134) (w := merged134) rfl (binX (vI rfl) (binX (vI rfl) (vI rfl) rfl rfl (o_ixL (f := (tp PyData.int)) (l := listed36) h_t132)) rfl rfl (o_catT (f := PyData.int) (l := merged_) (m := t132) h_t133)) rfl ?_)
        cases h
        exact ⟨some (PyData.int x_2), rfl⟩
      · obtain ⟨o137, rfl⟩ := he
        show wS _ [im (PyData.int u_), im (PyData.int c_), im ((ls PyData.int) d_), im ((ls (tp PyData.int)) listed36), im (PyData.int x_5), imo o137, im (PyData.int size_), im ((ls PyData.int) picked129), im ((tp PyData.int) merged136), imo o38, none, none, none] _
        obtain ⟨t138, h_t138, h⟩ := bnd h
        obtain ⟨due140, h_t139, h⟩ := bnd h
        refine w_seq ((t_set (f := PyData.int) (v := due140) (w := due140) rfl (indexX (f := (tp PyData.int)) (l := listed36) (a := t138) (by decide) (by decide) h_t139 (vI rfl) rfl (callI (aI (vI rfl) (aI (vI rfl) a0)) rfl (k__law_cut h_t138)) rfl) rfl ?_))
        show wS _ [im (PyData.int u_), im (PyData.int c_), im ((ls PyData.int) d_), im ((ls (tp PyData.int)) listed36), im (PyData.int x_5), imo o137, im (PyData.int size_), im ((ls PyData.int) picked129), im ((tp PyData.int) merged136), im (PyData.int due140), none, none, none] _
        obtain ⟨t141, h_t141, h⟩ := bnd h
        obtain ⟨t142, h_t142, h⟩ := bnd h
        refine w_seq ((w_if (b := (!t142)) (tnot (bang (callI (aI (callI (aI (vI rfl) (aI (cbX (dX (vI rfl) d0 rfl) rfl) a0)) rfl (k_joined_all h_t141)) (aI (vI rfl) a0)) rfl (k__law_is h_t142)))) (fun hc143 => ?_) (fun hc143 => ?_)))
        · rw [if1 hc143] at h
          cases h
          refine (w_ret cI ?_)
          exact rfl
        · rw [if0 hc143] at h
          refine w_nx ?_
          show wS _ [im (PyData.int u_), im (PyData.int c_), im ((ls PyData.int) d_), im ((ls (tp PyData.int)) listed36), im (PyData.int x_5), imo o137, im (PyData.int size_), im ((ls PyData.int) picked129), im ((tp PyData.int) merged136), im (PyData.int due140), none, none, none] _
          obtain ⟨t144, h_t144, h⟩ := bnd h
          obtain ⟨t145, h_t145, h⟩ := bnd h
          refine w_seq ((w_if (b := (!t145)) (tnot (bang (callI (aI (callKI a0 (aI (cbX (dX (rvLX (f := PyData.int) (l := picked129) (vI rfl) rfl) d0 rfl) rfl) (aI (vI rfl) a0)) rfl (k_joined_all h_t144)) (aI (vI rfl) a0)) rfl (k__law_is h_t145)))) (fun hc146 => ?_) (fun hc146 => ?_)))
          · rw [if1 hc146] at h
            cases h
            refine (w_ret cI ?_)
            exact rfl
          · rw [if0 hc146] at h
            refine w_nx ?_
            show wS _ [im (PyData.int u_), im (PyData.int c_), im ((ls PyData.int) d_), im ((ls (tp PyData.int)) listed36), im (PyData.int x_5), imo o137, im (PyData.int size_), im ((ls PyData.int) picked129), im ((tp PyData.int) merged136), im (PyData.int due140), none, none, none] _
            obtain ⟨folded147, h_folded147, h⟩ := bnd h
            refine w_seq ((t_set (f := PyData.int) (v := (0 : Int)) (w := folded147) h_folded147 cI rfl ?_))
            show wS _ [im (PyData.int u_), im (PyData.int c_), im ((ls PyData.int) d_), im ((ls (tp PyData.int)) listed36), im (PyData.int x_5), imo o137, im (PyData.int size_), im ((ls PyData.int) picked129), im ((tp PyData.int) merged136), im (PyData.int due140), im (PyData.int folded147), none, none] _
            obtain ⟨folded152, hl, h⟩ := bnd h
            refine w_seq ((t_forS PyData.int picked129 (fun x_3 (folded_ : Int) => f_w_small_L3 u_ listed36 x_5 picked129 due140 x_3 folded_) (fun (folded_ : Int) e => ∃ (o148 : Option PyData), e = [im (PyData.int u_), im (PyData.int c_), im ((ls PyData.int) d_), im ((ls (tp PyData.int)) listed36), im (PyData.int x_5), imo o148, im (PyData.int size_), im ((ls PyData.int) picked129), im ((tp PyData.int) merged136), im (PyData.int due140), im (PyData.int folded_), none, none]) (seqLX (f := PyData.int) (l := picked129) (vI rfl)) ⟨o137, rfl⟩ hl (fun x_3 folded_ s2_ h e he => ?_) (fun e he => ?_)))
            · obtain ⟨o148, rfl⟩ := he
              refine ⟨rfl, _, rfl, ?_⟩
              show wS _ [im (PyData.int u_), im (PyData.int c_), im ((ls PyData.int) d_), im ((ls (tp PyData.int)) listed36), im (PyData.int x_5), im (PyData.int x_3), im (PyData.int size_), im ((ls PyData.int) picked129), im ((tp PyData.int) merged136), im (PyData.int due140), im (PyData.int folded_), none, none] _
              replace h : f_w_small_L3 u_ listed36 x_5 picked129 due140 x_3 folded_ = some s2_ := h
              unfold f_w_small_L3 at h
              obtain ⟨folded150, h_t149, h⟩ := bnd h
              refine (t_set (f := PyData.int) (v := folded150) (w := folded150) rfl (callI (aI (vI rfl) (aI (vI rfl) (aI (vI rfl) a0))) rfl (k_joined h_t149)) rfl ?_)
              cases h
              exact ⟨some (PyData.int x_3), rfl⟩
            · obtain ⟨o153, rfl⟩ := he
              show wS _ [im (PyData.int u_), im (PyData.int c_), im ((ls PyData.int) d_), im ((ls (tp PyData.int)) listed36), im (PyData.int x_5), imo o153, im (PyData.int size_), im ((ls PyData.int) picked129), im ((tp PyData.int) merged136), im (PyData.int due140), im (PyData.int folded152), none, none] _
              obtain ⟨t154, h_t154, h⟩ := bnd h
              obtain ⟨t160, h_t160, h⟩ := bnd h
              refine w_seq ((w_if (b := t160) (torX (tnot (bang (callI (aI (vI rfl) (aI (vI rfl) a0)) rfl (k__law_is h_t154)))) h_t160 (fun _ _ hq => (by obtain ⟨t155, h_t155, hq⟩ := bnd hq; obtain ⟨t156, h_t156, hq⟩ := bnd hq; obtain ⟨t159, h_t159, hq⟩ := bnd hq; have hq := Option.some.inj hq; subst hq; exact (torX (tnot (bang (callI (aI (callI (aI (vI rfl) (aI (tupI a0 (Nat.le_of_ble_eq_true rfl)) a0)) rfl (k_joined_all h_t155)) (aI cI a0)) rfl (k__law_is h_t156)))) h_t159 (fun _ _ hq => (by obtain ⟨t157, h_t157, hq⟩ := bnd hq; obtain ⟨t158, h_t158, hq⟩ := bnd hq; have hq := Option.some.inj hq; subst hq; exact (tnot (bang (callI (aI (callI (aI (vI rfl) (aI (tupI (aI (vI rfl) a0) (Nat.le_of_ble_eq_true rfl)) a0)) rfl (k_joined_all h_t157)) (aI (vI rfl) a0)) rfl (k__law_is h_t158)))))))))) (fun hc161 => ?_) (fun hc161 => ?_)))
              · rw [if1 hc161] at h
                cases h
                refine (w_ret cI ?_)
                exact rfl
              · rw [if0 hc161] at h
                refine w_nx ?_
                show wS _ [im (PyData.int u_), im (PyData.int c_), im ((ls PyData.int) d_), im ((ls (tp PyData.int)) listed36), im (PyData.int x_5), imo o153, im (PyData.int size_), im ((ls PyData.int) picked129), im ((tp PyData.int) merged136), im (PyData.int due140), im (PyData.int folded152), none, none] _
                obtain ⟨is162, h_is162, h⟩ := bnd h
                obtain ⟨l_, hl, h⟩ := bnd h
                refine w_seq ((t_forG PyData.int is162 (fun x_4 (listed_ : (List (List Int))) => f_w_small_L4 u_ x_5 x_4 listed_) (fun (listed_ : (List (List Int))) e => ∃ (o163 : Option PyData) (o164 : Option PyData), e = [im (PyData.int u_), im (PyData.int c_), im ((ls PyData.int) d_), im ((ls (tp PyData.int)) listed_), im (PyData.int x_5), imo o153, im (PyData.int size_), im ((ls PyData.int) picked129), im ((tp PyData.int) merged136), imo o163, im (PyData.int folded152), imo o164, none]) (rtI PyData.bool) (rng1I (binX (vI rfl) cI rfl rfl e_add) h_is162) ⟨some (PyData.int due140), none, rfl⟩ hl (fun x_4 listed_ l2_ h e he => ?_) (fun listed178 hs e he => ?_) (fun r_ hs r2_ e hr => ?_)))
                · obtain ⟨o163, o164, rfl⟩ := he
                  refine ⟨rfl, _, rfl, ?_⟩
                  show wS _ [im (PyData.int u_), im (PyData.int c_), im ((ls PyData.int) d_), im ((ls (tp PyData.int)) listed_), im (PyData.int x_5), imo o153, im (PyData.int size_), im ((ls PyData.int) picked129), im ((tp PyData.int) merged136), imo o163, im (PyData.int folded152), im (PyData.int x_4), none] _
                  replace h : f_w_small_L4 u_ x_5 x_4 listed_ = some l2_ := h
                  unfold f_w_small_L4 at h
                  obtain ⟨t165, h_t165, h⟩ := bnd h
                  obtain ⟨t166, h_t166, h⟩ := bnd h
                  obtain ⟨t167, h_t167, h⟩ := bnd h
                  obtain ⟨due169, h_t168, h⟩ := bnd h
                  refine w_seq ((t_set (f := PyData.int) (v := due169) (w := due169) rfl (indexX (f := (tp PyData.int)) (l := listed_) (a := t167) (by decide) (by decide) h_t168 (vI rfl) rfl (callI (aI (vI rfl) (aI (binX (binX (vI rfl) (vI rfl) rfl rfl (o_ixL (f := (tp PyData.int)) (l := listed_) h_t165)) (vI rfl) rfl rfl (mTT (o_repT (f := PyData.int) (l := t165) h_t166))) a0)) rfl (k__law_cut h_t167)) rfl) rfl ?_))
                  show wS _ [im (PyData.int u_), im (PyData.int c_), im ((ls PyData.int) d_), im ((ls (tp PyData.int)) listed_), im (PyData.int x_5), imo o153, im (PyData.int size_), im ((ls PyData.int) picked129), im ((tp PyData.int) merged136), im (PyData.int due169), im (PyData.int folded152), im (PyData.int x_4), none] _
                  obtain ⟨t170, h_t170, h⟩ := bnd h
                  obtain ⟨t171, h_t171, h⟩ := bnd h
                  obtain ⟨t175, h_t175, h⟩ := bnd h
                  refine w_seq ((w_if (b := t175) (torX (tnot (bang (callI (aI (callI (aI (vI rfl) (aI (vI rfl) (aI (vI rfl) a0))) rfl (k_joined_many h_t170)) (aI (vI rfl) a0)) rfl (k__law_is h_t171)))) h_t175 (fun _ _ hq => (by obtain ⟨t172, h_t172, hq⟩ := bnd hq; obtain ⟨t173, h_t173, hq⟩ := bnd hq; obtain ⟨t174, h_t174, hq⟩ := bnd hq; have hq := Option.some.inj hq; subst hq; exact (tnot (bang (callI (aI (callI (aI (vI rfl) (aI (binX (tupI (aI (vI rfl) a0) (Nat.le_of_ble_eq_true rfl)) (vI rfl) rfl rfl (o_repT (f := PyData.int) (l := [x_5]) h_t172)) a0)) rfl (k_joined_all h_t173)) (aI (vI rfl) a0)) rfl (k__law_is h_t174))))))) (fun hc176 => ?_) (fun hc176 => ?_)))
                  · rw [if1 hc176] at h
                    cases h
                    refine (w_ret cI ?_)
                    exact rfl
                  · rw [if0 hc176] at h
                    refine w_nx ?_
                    show wS _ [im (PyData.int u_), im (PyData.int c_), im ((ls PyData.int) d_), im ((ls (tp PyData.int)) listed_), im (PyData.int x_5), imo o153, im (PyData.int size_), im ((ls PyData.int) picked129), im ((tp PyData.int) merged136), im (PyData.int due169), im (PyData.int folded152), im (PyData.int x_4), none] _
                    refine w_nx ?_
                    cases h
                    exact ⟨some (PyData.int due169), some (PyData.int x_4), rfl⟩
                · subst hs
                  replace h : _ = some r := h
                  dsimp only at h
                  obtain ⟨o179, o180, rfl⟩ := he
                  show wS _ [im (PyData.int u_), im (PyData.int c_), im ((ls PyData.int) d_), im ((ls (tp PyData.int)) listed178), im (PyData.int x_5), imo o153, im (PyData.int size_), im ((ls PyData.int) picked129), im ((tp PyData.int) merged136), imo o179, im (PyData.int folded152), imo o180, none] _
                  cases h
                  refine w_seq ((w_ret cI ?_))
                  exact rfl
                · subst hs
                  cases h
                  exact hr
    · refine ((w_if (b := (decide ((t41 % (8 : Int)) = (3 : Int)))) (bang (binX (binX (binX (vI rfl) cI rfl rfl (o_ixL (f := PyData.int) (l := d_) h_t41)) cI rfl rfl (e_mod (by decide))) cI rfl rfl e_eq)) (fun hc42 => ?_) (fun hc42 => ?_)))
      · rw [if1 hc42] at h
        obtain ⟨size181, h_size181, h⟩ := bnd h
        refine (t_set (f := PyData.int) (v := (40 : Int)) (w := size181) h_size181 cI rfl ?_)
        exact ⟨size181, rfl, h⟩
      · rw [if0 hc42] at h
        refine w_nx ?_
        exact ⟨size40, rfl, h⟩
  · subst hs
    cases h
    exact hr
theorem k__law_far {u_ : Int} {d_ : (List Int)} {r : Bool} (h : f_w_far u_ d_ = some r) : F__law_far [PyData.int u_, (ls PyData.int) d_] = some (.im (PyData.bool r)) := by
  unfold f_w_far at h
  refine t_fnI (enc := PyData.bool) rfl ?_
  show wS _ [im (PyData.int u_), im ((ls PyData.int) d_), none, none, none, none, none, none, none, none, none, none, none, none, none, none] _
  obtain ⟨is1, h_is1, h⟩ := bnd h
  obtain ⟨pool7, h_t6, h⟩ := bnd h
  refine w_seq ((t_setL (f := PyData.int) (v := pool7) (w := pool7) rfl (lcX (enc := PyData.int) (encB := PyData.int) h_t6 (rng1I cI h_is1) rfl (fun x2 _ => ⟨_, rfl, rfl, fun _ hq => (by have hq := Option.some.inj hq; subst hq; rfl), fun _ _ hq => (by obtain ⟨t3, h_t3, hq⟩ := bnd hq; obtain ⟨t4, h_t4, hq⟩ := bnd hq; obtain ⟨t5, h_t5, hq⟩ := bnd hq; have hq := Option.some.inj hq; subst hq; exact ⟨_, (binX cI (binX (cbX (dX (callI (aI (vI rfl) (aI (binX cI (binX cI (vI rfl) rfl rfl (mT (e_mul (.inl (by decide))))) rfl rfl e_add) a0)) rfl (k__law_great h_t3)) d0 rfl) o_int) (callI (aI (vI rfl) a0) rfl (k__law_bound h_t4)) rfl rfl (o_mod h_t5)) rfl rfl e_add), rfl, rfl⟩)⟩)) rfl ?_))
  show wS _ [im (PyData.int u_), im ((ls PyData.int) d_), im ((ls PyData.int) pool7), none, none, none, none, none, none, none, none, none, none, none, none, none] _
  obtain ⟨left9, h_t8, h⟩ := bnd h
  refine w_seq ((t_set (f := (tp PyData.int)) (v := left9) (w := left9) rfl (callI (aI (vI rfl) (aI (vI rfl) (aI (vI rfl) (aI cI a0)))) rfl (k__law_members h_t8)) rfl ?_))
  show wS _ [im (PyData.int u_), im ((ls PyData.int) d_), im ((ls PyData.int) pool7), im ((tp PyData.int) left9), none, none, none, none, none, none, none, none, none, none, none, none] _
  obtain ⟨right11, h_t10, h⟩ := bnd h
  refine w_seq ((t_set (f := (tp PyData.int)) (v := right11) (w := right11) rfl (callI (aI (vI rfl) (aI (vI rfl) (aI (vI rfl) (aI cI a0)))) rfl (k__law_members h_t10)) rfl ?_))
  show wS _ [im (PyData.int u_), im ((ls PyData.int) d_), im ((ls PyData.int) pool7), im ((tp PyData.int) left9), im ((tp PyData.int) right11), none, none, none, none, none, none, none, none, none, none, none] _
  obtain ⟨third13, h_t12, h⟩ := bnd h
  refine w_seq ((t_set (f := (tp PyData.int)) (v := third13) (w := third13) rfl (callI (aI (vI rfl) (aI (vI rfl) (aI (vI rfl) (aI cI a0)))) rfl (k__law_members h_t12)) rfl ?_))
  show wS _ [im (PyData.int u_), im ((ls PyData.int) d_), im ((ls PyData.int) pool7), im ((tp PyData.int) left9), im ((tp PyData.int) right11), im ((tp PyData.int) third13), none, none, none, none, none, none, none, none, none, none] _
  obtain ⟨x_15, h_t14, h⟩ := bnd h
  refine w_seq ((t_set (f := PyData.int) (v := x_15) (w := x_15) rfl (callI (aI (vI rfl) (aI (vI rfl) a0)) rfl (k__law_place h_t14)) rfl ?_))
  show wS _ [im (PyData.int u_), im ((ls PyData.int) d_), im ((ls PyData.int) pool7), im ((tp PyData.int) left9), im ((tp PyData.int) right11), im ((tp PyData.int) third13), im (PyData.int x_15), none, none, none, none, none, none, none, none, none] _
  obtain ⟨y_17, h_t16, h⟩ := bnd h
  refine w_seq ((t_set (f := PyData.int) (v := y_17) (w := y_17) rfl (callI (aI (vI rfl) (aI (vI rfl) a0)) rfl (k__law_place h_t16)) rfl ?_))
  show wS _ [im (PyData.int u_), im ((ls PyData.int) d_), im ((ls PyData.int) pool7), im ((tp PyData.int) left9), im ((tp PyData.int) right11), im ((tp PyData.int) third13), im (PyData.int x_15), im (PyData.int y_17), none, none, none, none, none, none, none, none] _
  obtain ⟨z_19, h_t18, h⟩ := bnd h
  refine w_seq ((t_set (f := PyData.int) (v := z_19) (w := z_19) rfl (callI (aI (vI rfl) (aI (vI rfl) a0)) rfl (k__law_place h_t18)) rfl ?_))
  show wS _ [im (PyData.int u_), im ((ls PyData.int) d_), im ((ls PyData.int) pool7), im ((tp PyData.int) left9), im ((tp PyData.int) right11), im ((tp PyData.int) third13), im (PyData.int x_15), im (PyData.int y_17), im (PyData.int z_19), none, none, none, none, none, none, none] _
  obtain ⟨t20, h_t20, h⟩ := bnd h
  obtain ⟨t21, h_t21, h⟩ := bnd h
  obtain ⟨both23, h_t22, h⟩ := bnd h
  refine w_seq ((t_set (f := PyData.int) (v := both23) (w := both23) rfl (callI (aI (vI rfl) (aI (callI (aI (vI rfl) (aI (binX (vI rfl) (vI rfl) rfl rfl (o_catT (f := PyData.int) (l := left9) (m := right11) h_t20)) a0)) rfl (k__law_cut h_t21)) a0)) rfl (k__law_place h_t22)) rfl ?_))
  show wS _ [im (PyData.int u_), im ((ls PyData.int) d_), im ((ls PyData.int) pool7), im ((tp PyData.int) left9), im ((tp PyData.int) right11), im ((tp PyData.int) third13), im (PyData.int x_15), im (PyData.int y_17), im (PyData.int z_19), im (PyData.int both23), none, none, none, none, none, none] _
  obtain ⟨t24, h_t24, h⟩ := bnd h
  obtain ⟨t25, h_t25, h⟩ := bnd h
  obtain ⟨t28, h_t28, h⟩ := bnd h
  refine w_seq ((w_if (b := t28) (torX (tnot (bang (callI (aI (callI (aI (vI rfl) (aI (vI rfl) (aI (vI rfl) a0))) rfl (k_joined h_t24)) (aI (vI rfl) a0)) rfl (k__law_is h_t25)))) h_t28 (fun _ _ hq => (by obtain ⟨t26, h_t26, hq⟩ := bnd hq; obtain ⟨t27, h_t27, hq⟩ := bnd hq; have hq := Option.some.inj hq; subst hq; exact (tnot (bang (callI (aI (callI (aI (vI rfl) (aI (vI rfl) (aI (vI rfl) a0))) rfl (k_joined h_t26)) (aI (vI rfl) a0)) rfl (k__law_is h_t27))))))) (fun hc29 => ?_) (fun hc29 => ?_)))
  · rw [if1 hc29] at h
    cases h
    refine (w_ret cI ?_)
    exact rfl
  · rw [if0 hc29] at h
    refine w_nx ?_
    show wS _ [im (PyData.int u_), im ((ls PyData.int) d_), im ((ls PyData.int) pool7), im ((tp PyData.int) left9), im ((tp PyData.int) right11), im ((tp PyData.int) third13), im (PyData.int x_15), im (PyData.int y_17), im (PyData.int z_19), im (PyData.int both23), none, none, none, none, none, none] _
    obtain ⟨t30, h_t30, h⟩ := bnd h
    obtain ⟨t31, h_t31, h⟩ := bnd h
    obtain ⟨t32, h_t32, h⟩ := bnd h
    obtain ⟨every34, h_t33, h⟩ := bnd h
    refine w_seq ((t_set (f := PyData.int) (v := every34) (w := every34) rfl (callI (aI (vI rfl) (aI (callI (aI (vI rfl) (aI (binX (binX (vI rfl) (vI rfl) rfl rfl (o_catT (f := PyData.int) (l := left9) (m := right11) h_t30)) (vI rfl) rfl rfl (o_catT (f := PyData.int) (l := t30) (m := third13) h_t31)) a0)) rfl (k__law_cut h_t32)) a0)) rfl (k__law_place h_t33)) rfl ?_))
    show wS _ [im (PyData.int u_), im ((ls PyData.int) d_), im ((ls PyData.int) pool7), im ((tp PyData.int) left9), im ((tp PyData.int) right11), im ((tp PyData.int) third13), im (PyData.int x_15), im (PyData.int y_17), im (PyData.int z_19), im (PyData.int both23), im (PyData.int every34), none, none, none, none, none] _
    obtain ⟨t35, h_t35, h⟩ := bnd h
    obtain ⟨t36, h_t36, h⟩ := bnd h
    obtain ⟨t37, h_t37, h⟩ := bnd h
    obtain ⟨t41, h_t41, h⟩ := bnd h
    refine w_seq ((w_if (b := t41) (torX (tnot (bang (callI (aI (callI (aI (vI rfl) (aI (callI (aI (vI rfl) (aI (vI rfl) (aI (vI rfl) a0))) rfl (k_joined h_t35)) (aI (vI rfl) a0))) rfl (k_joined h_t36)) (aI (vI rfl) a0)) rfl (k__law_is h_t37)))) h_t41 (fun _ _ hq => (by obtain ⟨t38, h_t38, hq⟩ := bnd hq; obtain ⟨t39, h_t39, hq⟩ := bnd hq; obtain ⟨t40, h_t40, hq⟩ := bnd hq; have hq := Option.some.inj hq; subst hq; exact (tnot (bang (callI (aI (callI (aI (vI rfl) (aI (vI rfl) (aI (callI (aI (vI rfl) (aI (vI rfl) (aI (vI rfl) a0))) rfl (k_joined h_t38)) a0))) rfl (k_joined h_t39)) (aI (vI rfl) a0)) rfl (k__law_is h_t40))))))) (fun hc42 => ?_) (fun hc42 => ?_)))
    · rw [if1 hc42] at h
      cases h
      refine (w_ret cI ?_)
      exact rfl
    · rw [if0 hc42] at h
      refine w_nx ?_
      show wS _ [im (PyData.int u_), im ((ls PyData.int) d_), im ((ls PyData.int) pool7), im ((tp PyData.int) left9), im ((tp PyData.int) right11), im ((tp PyData.int) third13), im (PyData.int x_15), im (PyData.int y_17), im (PyData.int z_19), im (PyData.int both23), im (PyData.int every34), none, none, none, none, none] _
      obtain ⟨t43, h_t43, h⟩ := bnd h
      obtain ⟨t44, h_t44, h⟩ := bnd h
      obtain ⟨t47, h_t47, h⟩ := bnd h
      refine w_seq ((w_if (b := t47) (torX (tnot (bang (callI (aI (callI (aI (vI rfl) (aI (tupI (aI (vI rfl) (aI (vI rfl) (aI cI (aI (vI rfl) a0)))) (Nat.le_of_ble_eq_true rfl)) a0)) rfl (k_joined_all h_t43)) (aI (vI rfl) a0)) rfl (k__law_is h_t44)))) h_t47 (fun _ _ hq => (by obtain ⟨t45, h_t45, hq⟩ := bnd hq; obtain ⟨t46, h_t46, hq⟩ := bnd hq; have hq := Option.some.inj hq; subst hq; exact (tnot (bang (callI (aI (callI (aI (vI rfl) (aI (tupI (aI (vI rfl) (aI (vI rfl) (aI (vI rfl) a0))) (Nat.le_of_ble_eq_true rfl)) a0)) rfl (k_joined_all h_t45)) (aI (vI rfl) a0)) rfl (k__law_is h_t46))))))) (fun hc48 => ?_) (fun hc48 => ?_)))
      · rw [if1 hc48] at h
        cases h
        refine (w_ret cI ?_)
        exact rfl
      · rw [if0 hc48] at h
        refine w_nx ?_
        show wS _ [im (PyData.int u_), im ((ls PyData.int) d_), im ((ls PyData.int) pool7), im ((tp PyData.int) left9), im ((tp PyData.int) right11), im ((tp PyData.int) third13), im (PyData.int x_15), im (PyData.int y_17), im (PyData.int z_19), im (PyData.int both23), im (PyData.int every34), none, none, none, none, none] _
        obtain ⟨t49, h_t49, h⟩ := bnd h
        obtain ⟨t50, h_t50, h⟩ := bnd h
        obtain ⟨t51, h_t51, h⟩ := bnd h
        obtain ⟨due53, h_t52, h⟩ := bnd h
        refine w_seq ((t_set (f := PyData.int) (v := due53) (w := due53) rfl (callI (aI (vI rfl) (aI (callI (aI (vI rfl) (aI (binX (callI (aI (vI rfl) (aI (vI rfl) a0)) rfl (k__law_after h_t49)) (vI rfl) rfl rfl (o_catT (f := PyData.int) (l := t49) (m := right11) h_t50)) a0)) rfl (k__law_cut h_t51)) a0)) rfl (k__law_place h_t52)) rfl ?_))
        show wS _ [im (PyData.int u_), im ((ls PyData.int) d_), im ((ls PyData.int) pool7), im ((tp PyData.int) left9), im ((tp PyData.int) right11), im ((tp PyData.int) third13), im (PyData.int x_15), im (PyData.int y_17), im (PyData.int z_19), im (PyData.int both23), im (PyData.int every34), im (PyData.int due53), none, none, none, none] _
        obtain ⟨t54, h_t54, h⟩ := bnd h
        obtain ⟨t55, h_t55, h⟩ := bnd h
        refine w_seq ((w_if (b := (!t55)) (tnot (bang (callI (aI (callKI a0 (aI (binX (vI rfl) cI rfl rfl e_add) (aI (vI rfl) (aI (vI rfl) a0))) rfl (k_joined h_t54)) (aI (vI rfl) a0)) rfl (k__law_is h_t55)))) (fun hc56 => ?_) (fun hc56 => ?_)))
        · rw [if1 hc56] at h
          cases h
          refine (w_ret cI ?_)
          exact rfl
        · rw [if0 hc56] at h
          refine w_nx ?_
          show wS _ [im (PyData.int u_), im ((ls PyData.int) d_), im ((ls PyData.int) pool7), im ((tp PyData.int) left9), im ((tp PyData.int) right11), im ((tp PyData.int) third13), im (PyData.int x_15), im (PyData.int y_17), im (PyData.int z_19), im (PyData.int both23), im (PyData.int every34), im (PyData.int due53), none, none, none, none] _
          obtain ⟨t57, h_t57, h⟩ := bnd h
          obtain ⟨t58, h_t58, h⟩ := bnd h
          obtain ⟨t61, h_t61, h⟩ := bnd h
          refine w_seq ((w_if (b := t61) (torX (tnot (bang (callI (aI (callI (aI (vI rfl) (aI (vI rfl) (aI cI a0))) rfl (k_joined h_t57)) (aI (vI rfl) a0)) rfl (k__law_is h_t58)))) h_t61 (fun _ _ hq => (by obtain ⟨t59, h_t59, hq⟩ := bnd hq; obtain ⟨t60, h_t60, hq⟩ := bnd hq; have hq := Option.some.inj hq; subst hq; exact (tnot (bang (callI (aI (callI (aI (vI rfl) (aI cI (aI (vI rfl) a0))) rfl (k_joined h_t59)) (aI (vI rfl) a0)) rfl (k__law_is h_t60))))))) (fun hc62 => ?_) (fun hc62 => ?_)))
          · rw [if1 hc62] at h
            cases h
            refine (w_ret cI ?_)
            exact rfl
          · rw [if0 hc62] at h
            refine w_nx ?_
            show wS _ [im (PyData.int u_), im ((ls PyData.int) d_), im ((ls PyData.int) pool7), im ((tp PyData.int) left9), im ((tp PyData.int) right11), im ((tp PyData.int) third13), im (PyData.int x_15), im (PyData.int y_17), im (PyData.int z_19), im (PyData.int both23), im (PyData.int every34), im (PyData.int due53), none, none, none, none] _
            obtain ⟨t63, h_t63, h⟩ := bnd h
            obtain ⟨t64, h_t64, h⟩ := bnd h
            obtain ⟨due66, h_t65, h⟩ := bnd h
            refine w_seq ((t_set (f := PyData.int) (v := due66) (w := due66) rfl (callI (aI (vI rfl) (aI (callI (aI (vI rfl) (aI (binX (vI rfl) (vI rfl) rfl rfl (mTT (o_repT (f := PyData.int) (l := right11) h_t63))) a0)) rfl (k__law_cut h_t64)) a0)) rfl (k__law_place h_t65)) rfl ?_))
            show wS _ [im (PyData.int u_), im ((ls PyData.int) d_), im ((ls PyData.int) pool7), im ((tp PyData.int) left9), im ((tp PyData.int) right11), im ((tp PyData.int) third13), im (PyData.int x_15), im (PyData.int y_17), im (PyData.int z_19), im (PyData.int both23), im (PyData.int every34), im (PyData.int due66), none, none, none, none] _
            obtain ⟨t67, h_t67, h⟩ := bnd h
            obtain ⟨far68, h_far68, h⟩ := bnd h
            refine w_seq ((t_set (f := PyData.int) (v := (u_ + t67)) (w := far68) h_far68 (binX (vI rfl) (callI (aI (vI rfl) (aI cI a0)) rfl (k__law_great h_t67)) rfl rfl e_add) rfl ?_))
            show wS _ [im (PyData.int u_), im ((ls PyData.int) d_), im ((ls PyData.int) pool7), im ((tp PyData.int) left9), im ((tp PyData.int) right11), im ((tp PyData.int) third13), im (PyData.int x_15), im (PyData.int y_17), im (PyData.int z_19), im (PyData.int both23), im (PyData.int every34), im (PyData.int due66), im (PyData.int far68), none, none, none] _
            obtain ⟨t69, h_t69, h⟩ := bnd h
            obtain ⟨t70, h_t70, h⟩ := bnd h
            obtain ⟨t73, h_t73, h⟩ := bnd h
            refine w_seq ((w_if (b := t73) (torX (tnot (bang (callI (aI (callI (aI (vI rfl) (aI (vI rfl) (aI (vI rfl) a0))) rfl (k_joined_many h_t69)) (aI (vI rfl) a0)) rfl (k__law_is h_t70)))) h_t73 (fun _ _ hq => (by obtain ⟨t71, h_t71, hq⟩ := bnd hq; obtain ⟨t72, h_t72, hq⟩ := bnd hq; have hq := Option.some.inj hq; subst hq; exact (tnot (bang (callI (aI (callKI a0 (aI (vI rfl) (aI (vI rfl) (aI (vI rfl) a0))) rfl (k_joined_many h_t71)) (aI (vI rfl) a0)) rfl (k__law_is h_t72))))))) (fun hc74 => ?_) (fun hc74 => ?_)))
            · rw [if1 hc74] at h
              cases h
              refine (w_ret cI ?_)
              exact rfl
            · rw [if0 hc74] at h
              refine w_nx ?_
              show wS _ [im (PyData.int u_), im ((ls PyData.int) d_), im ((ls PyData.int) pool7), im ((tp PyData.int) left9), im ((tp PyData.int) right11), im ((tp PyData.int) third13), im (PyData.int x_15), im (PyData.int y_17), im (PyData.int z_19), im (PyData.int both23), im (PyData.int every34), im (PyData.int due66), im (PyData.int far68), none, none, none] _
              obtain ⟨t75, h_t75, h⟩ := bnd h
              obtain ⟨times77, h_t76, h⟩ := bnd h
              refine w_seq ((t_set (f := PyData.int) (v := times77) (w := times77) rfl (binX (binX (vI rfl) cI rfl rfl (o_ixL (f := PyData.int) (l := d_) h_t75)) (binX (vI rfl) cI rfl rfl e_add) rfl rfl (o_mod h_t76)) rfl ?_))
              show wS _ [im (PyData.int u_), im ((ls PyData.int) d_), im ((ls PyData.int) pool7), im ((tp PyData.int) left9), im ((tp PyData.int) right11), im ((tp PyData.int) third13), im (PyData.int x_15), im (PyData.int y_17), im (PyData.int z_19), im (PyData.int both23), im (PyData.int every34), im (PyData.int due66), im (PyData.int far68), im (PyData.int times77), none, none] _
              obtain ⟨t78, h_t78, h⟩ := bnd h
              obtain ⟨t79, h_t79, h⟩ := bnd h
              obtain ⟨due81, h_t80, h⟩ := bnd h
              refine w_seq ((t_set (f := PyData.int) (v := due81) (w := due81) rfl (callI (aI (vI rfl) (aI (callI (aI (vI rfl) (aI (binX (vI rfl) (vI rfl) rfl rfl (mTT (o_repT (f := PyData.int) (l := third13) h_t78))) a0)) rfl (k__law_cut h_t79)) a0)) rfl (k__law_place h_t80)) rfl ?_))
              show wS _ [im (PyData.int u_), im ((ls PyData.int) d_), im ((ls PyData.int) pool7), im ((tp PyData.int) left9), im ((tp PyData.int) right11), im ((tp PyData.int) third13), im (PyData.int x_15), im (PyData.int y_17), im (PyData.int z_19), im (PyData.int both23), im (PyData.int every34), im (PyData.int due81), im (PyData.int far68), im (PyData.int times77), none, none] _
              obtain ⟨t82, h_t82, h⟩ := bnd h
              obtain ⟨t83, h_t83, h⟩ := bnd h
              refine w_seq ((w_if (b := (!t83)) (tnot (bang (callI (aI (callI (aI (vI rfl) (aI (vI rfl) (aI (vI rfl) a0))) rfl (k_joined_many h_t82)) (aI (vI rfl) a0)) rfl (k__law_is h_t83)))) (fun hc84 => ?_) (fun hc84 => ?_)))
              · rw [if1 hc84] at h
                cases h
                refine (w_ret cI ?_)
                exact rfl
              · rw [if0 hc84] at h
                refine w_nx ?_
                show wS _ [im (PyData.int u_), im ((ls PyData.int) d_), im ((ls PyData.int) pool7), im ((tp PyData.int) left9), im ((tp PyData.int) right11), im ((tp PyData.int) third13), im (PyData.int x_15), im (PyData.int y_17), im (PyData.int z_19), im (PyData.int both23), im (PyData.int every34), im (PyData.int due81), im (PyData.int far68), im (PyData.int times77), none, none] _
                obtain ⟨t85, h_t85, h⟩ := bnd h
                obtain ⟨room87, h_t86, h⟩ := bnd h
                refine w_seq ((t_set (f := PyData.int) (v := room87) (w := room87) rfl (callI (aI (vI rfl) (aI (binX cI (binX (binX (vI rfl) cI rfl rfl (o_ixL (f := PyData.int) (l := d_) h_t85)) cI rfl rfl (e_mod (by decide))) rfl rfl e_add) a0)) rfl (k_capacity h_t86)) rfl ?_))
                show wS _ [im (PyData.int u_), im ((ls PyData.int) d_), im ((ls PyData.int) pool7), im ((tp PyData.int) left9), im ((tp PyData.int) right11), im ((tp PyData.int) third13), im (PyData.int x_15), im (PyData.int y_17), im (PyData.int z_19), im (PyData.int both23), im (PyData.int every34), im (PyData.int due81), im (PyData.int far68), im (PyData.int times77), im (PyData.int room87), none] _
                obtain ⟨t90, h_t90, h⟩ := bnd h
                cases h
                refine w_seq ((w_ret (andX (binX (binX (vI rfl) (vI rfl) rfl rfl e_qlt) (andXt (binX (vI rfl) (vI rfl) rfl rfl e_qlt) (binX (vI rfl) (vI rfl) rfl rfl e_qlt)) rfl rfl e_eqB) h_t90 (fun _ _ hq => (by obtain ⟨t88, h_t88, hq⟩ := bnd hq; obtain ⟨t89, h_t89, hq⟩ := bnd hq; have hq := Option.some.inj hq; subst hq; exact (binX (vI rfl) (callI (aI (binX (binX (vI rfl) cI rfl rfl e_add) (binX (binX (vI rfl) cI rfl rfl (o_ixL (f := PyData.int) (l := d_) h_t88)) cI rfl rfl (e_mod (by decide))) rfl rfl e_add) (aI (vI rfl) a0)) rfl (k__law_product h_t89)) rfl rfl e_eq)))) ?_))
                exact rfl
theorem k__law_ask {which : Str} {a_ : PyData} {r : PyData} (h : f_w_ask which a_ = some r) : F__law_ask [PyData.str which, idD a_] = some (.im (idD r)) := chI_ok h
theorem k__law_word {which : Str} {a_ : PyData} {r : Str} (h : f_w_word which a_ = some r) : F__law_word [PyData.str which, idD a_] = some (.im (PyData.str r)) := chI_ok h
theorem k__law_refusals {odd : PyData} {u_ : Int} {r : Bool} (h : f_w_refusals odd u_ = some r) : F__law_refusals [idD odd, PyData.int u_] = some (.im (PyData.bool r)) := by
  unfold f_w_refusals at h
  refine t_fnI (enc := PyData.bool) rfl ?_
  show wS _ [im (idD odd), im (PyData.int u_), none, none, none] _
  obtain ⟨bad1, h_bad1, h⟩ := bnd h
  refine w_seq ((t_setL (f := (p3 PyData.str idD PyData.str)) (v := [(("joined" : Str), ((p3 idD idD idD) (odd, odd, odd)), ("width" : Str)), (("joined" : Str), ((p3 idD idD idD) ((PyData.int u_), odd, odd)), ("one" : Str)), (("joined" : Str), ((p3 idD idD idD) ((PyData.int u_), (PyData.int (3 : Int)), odd)), ("other" : Str))]) (w := bad1) h_bad1 (lstX (aI (tupI (aI cI (aI (tupI (aI (vI rfl) (aI (vI rfl) (aI (vI rfl) a0))) (Nat.le_of_ble_eq_true rfl)) (aI cI a0))) (Nat.le_of_ble_eq_true rfl)) (aI (tupI (aI cI (aI (tupI (aI (vI rfl) (aI (vI rfl) (aI (vI rfl) a0))) (Nat.le_of_ble_eq_true rfl)) (aI cI a0))) (Nat.le_of_ble_eq_true rfl)) (aI (tupI (aI cI (aI (tupI (aI (vI rfl) (aI cI (aI (vI rfl) a0))) (Nat.le_of_ble_eq_true rfl)) (aI cI a0))) (Nat.le_of_ble_eq_true rfl)) a0))) (Nat.le_of_ble_eq_true rfl)) rfl ?_))
  show wS _ [im (idD odd), im (PyData.int u_), im ((ls (p3 PyData.str idD PyData.str)) bad1), none, none] _
  obtain ⟨bad3, h_t2, h⟩ := bnd h
  refine w_seq ((t_setL (f := (p3 PyData.str idD PyData.str)) (v := bad3) (w := bad3) rfl (binX (vI rfl) (lstX (aI (tupI (aI cI (aI (tupI (aI cI (aI cI (aI cI a0))) (Nat.le_of_ble_eq_true rfl)) (aI cI a0))) (Nat.le_of_ble_eq_true rfl)) (aI (tupI (aI cI (aI (tupI (aI cI (aI cI (aI cI a0))) (Nat.le_of_ble_eq_true rfl)) (aI cI a0))) (Nat.le_of_ble_eq_true rfl)) (aI (tupI (aI cI (aI (tupI (aI (vI rfl) (aI (negI cI) (aI cI a0))) (Nat.le_of_ble_eq_true rfl)) (aI cI a0))) (Nat.le_of_ble_eq_true rfl)) a0))) (Nat.le_of_ble_eq_true rfl)) rfl rfl (o_catL (f := (p3 PyData.str idD PyData.str)) (l := bad1) (m := [(("joined" : Str), ((p3 idD PyData.int idD) ((PyData.int (0 : Int)), (1 : Int), (PyData.int (1 : Int)))), ("width" : Str)), (("joined" : Str), ((p3 idD PyData.int idD) ((PyData.bool true), (1 : Int), (PyData.int (1 : Int)))), ("width" : Str)), (("joined" : Str), ((p3 idD PyData.int idD) ((PyData.int u_), (-1 : Int), (PyData.bool true))), ("one" : Str))]) h_t2)) rfl ?_))
  show wS _ [im (idD odd), im (PyData.int u_), im ((ls (p3 PyData.str idD PyData.str)) bad3), none, none] _
  obtain ⟨bad5, h_t4, h⟩ := bnd h
  refine w_seq ((t_setL (f := (p3 PyData.str idD PyData.str)) (v := bad5) (w := bad5) rfl (binX (vI rfl) (lstX (aI (tupI (aI cI (aI (tupI (aI (vI rfl) (aI cI (aI cI a0))) (Nat.le_of_ble_eq_true rfl)) (aI cI a0))) (Nat.le_of_ble_eq_true rfl)) (aI (tupI (aI cI (aI (tupI (aI (vI rfl) (aI cI (aI (negI cI) a0))) (Nat.le_of_ble_eq_true rfl)) (aI cI a0))) (Nat.le_of_ble_eq_true rfl)) (aI (tupI (aI cI (aI (tupI (aI (vI rfl) (aI cI (aI cI a0))) (Nat.le_of_ble_eq_true rfl)) (aI cI a0))) (Nat.le_of_ble_eq_true rfl)) a0))) (Nat.le_of_ble_eq_true rfl)) rfl rfl (o_catL (f := (p3 PyData.str idD PyData.str)) (l := bad3) (m := [(("joined" : Str), ((p3 PyData.int idD idD) (u_, (PyData.bool true), (PyData.int (1 : Int)))), ("one" : Str)), (("joined" : Str), ((p3 PyData.int idD idD) (u_, (PyData.int (1 : Int)), (PyData.int (-1 : Int)))), ("other" : Str)), (("joined" : Str), ((p3 PyData.int idD idD) (u_, (PyData.int (0 : Int)), (PyData.bool true))), ("other" : Str))]) h_t4)) rfl ?_))
  show wS _ [im (idD odd), im (PyData.int u_), im ((ls (p3 PyData.str idD PyData.str)) bad5), none, none] _
  obtain ⟨bad7, h_t6, h⟩ := bnd h
  refine w_seq ((t_setL (f := (p3 PyData.str idD PyData.str)) (v := bad7) (w := bad7) rfl (binX (vI rfl) (lstX (aI (tupI (aI cI (aI (tupI (aI (vI rfl) (aI (vI rfl) a0)) (Nat.le_of_ble_eq_true rfl)) (aI cI a0))) (Nat.le_of_ble_eq_true rfl)) (aI (tupI (aI cI (aI (tupI (aI cI (aI (tupI a0 (Nat.le_of_ble_eq_true rfl)) a0)) (Nat.le_of_ble_eq_true rfl)) (aI cI a0))) (Nat.le_of_ble_eq_true rfl)) a0)) (Nat.le_of_ble_eq_true rfl)) rfl rfl (o_catL (f := (p3 PyData.str idD PyData.str)) (l := bad5) (m := [(("joined_all" : Str), ((p2 idD idD) (odd, odd)), ("width" : Str)), (("joined_all" : Str), ((p2 idD idD) ((PyData.int (0 : Int)), ((tp PyData.int) []))), ("width" : Str))]) h_t6)) rfl ?_))
  show wS _ [im (idD odd), im (PyData.int u_), im ((ls (p3 PyData.str idD PyData.str)) bad7), none, none] _
  obtain ⟨bad9, h_t8, h⟩ := bnd h
  refine w_seq ((t_setL (f := (p3 PyData.str idD PyData.str)) (v := bad9) (w := bad9) rfl (binX (vI rfl) (lstX (aI (tupI (aI cI (aI (tupI (aI (vI rfl) (aI cI a0)) (Nat.le_of_ble_eq_true rfl)) (aI cI a0))) (Nat.le_of_ble_eq_true rfl)) a0) (Nat.le_of_ble_eq_true rfl)) rfl rfl (o_catL (f := (p3 PyData.str idD PyData.str)) (l := bad7) (m := [(("joined_all" : Str), ((p2 PyData.int PyData.int) (u_, (5 : Int))), ("numbers" : Str))]) h_t8)) rfl ?_))
  show wS _ [im (idD odd), im (PyData.int u_), im ((ls (p3 PyData.str idD PyData.str)) bad9), none, none] _
  obtain ⟨bad11, h_t10, h⟩ := bnd h
  refine w_seq ((t_setL (f := (p3 PyData.str idD PyData.str)) (v := bad11) (w := bad11) rfl (binX (vI rfl) (lstX (aI (tupI (aI cI (aI (tupI (aI (vI rfl) (aA (lstX (aI cI (aI cI a0)) (Nat.le_of_ble_eq_true rfl)) a0)) (Nat.le_of_ble_eq_true rfl)) (aI cI a0))) (Nat.le_of_ble_eq_true rfl)) (aI (tupI (aI cI (aI (tupI (aI (vI rfl) (aI (tupI (aI cI (aI (negI cI) a0)) (Nat.le_of_ble_eq_true rfl)) a0)) (Nat.le_of_ble_eq_true rfl)) (aI cI a0))) (Nat.le_of_ble_eq_true rfl)) a0)) (Nat.le_of_ble_eq_true rfl)) rfl rfl (o_catL (f := (p3 PyData.str idD PyData.str)) (l := bad9) (m := [(("joined_all" : Str), ((p2 PyData.int idD) (u_, ((ls PyData.int) [(1 : Int), (2 : Int)]))), ("numbers" : Str)), (("joined_all" : Str), ((p2 PyData.int idD) (u_, ((p2 PyData.int PyData.int) ((1 : Int), (-1 : Int))))), ("numbers" : Str))]) h_t10)) rfl ?_))
  show wS _ [im (idD odd), im (PyData.int u_), im ((ls (p3 PyData.str idD PyData.str)) bad11), none, none] _
  obtain ⟨bad13, h_t12, h⟩ := bnd h
  refine w_seq ((t_setL (f := (p3 PyData.str idD PyData.str)) (v := bad13) (w := bad13) rfl (binX (vI rfl) (lstX (aI (tupI (aI cI (aI (tupI (aI (vI rfl) (aI (tupI (aI cI (aI (vI rfl) (aI cI a0))) (Nat.le_of_ble_eq_true rfl)) a0)) (Nat.le_of_ble_eq_true rfl)) (aI cI a0))) (Nat.le_of_ble_eq_true rfl)) (aI (tupI (aI cI (aI (tupI (aI (vI rfl) (aI (tupI (aI cI a0) (Nat.le_of_ble_eq_true rfl)) a0)) (Nat.le_of_ble_eq_true rfl)) (aI cI a0))) (Nat.le_of_ble_eq_true rfl)) a0)) (Nat.le_of_ble_eq_true rfl)) rfl rfl (o_catL (f := (p3 PyData.str idD PyData.str)) (l := bad11) (m := [(("joined_all" : Str), ((p2 PyData.int (tp idD)) (u_, [(PyData.int (3 : Int)), odd, (PyData.int (1 : Int))])), ("numbers" : Str)), (("joined_all" : Str), ((p2 PyData.int (tp idD)) (u_, [(PyData.bool true)])), ("numbers" : Str))]) h_t12)) rfl ?_))
  show wS _ [im (idD odd), im (PyData.int u_), im ((ls (p3 PyData.str idD PyData.str)) bad13), none, none] _
  obtain ⟨bad15, h_t14, h⟩ := bnd h
  refine w_seq ((t_setL (f := (p3 PyData.str idD PyData.str)) (v := bad15) (w := bad15) rfl (binX (vI rfl) (lstX (aI (tupI (aI cI (aI (tupI (aI (vI rfl) (aI cI a0)) (Nat.le_of_ble_eq_true rfl)) (aI cI a0))) (Nat.le_of_ble_eq_true rfl)) (aI (tupI (aI cI (aI (tupI (aI (vI rfl) (aI (tupI (aI cI (aI (tupI (aI cI a0) (Nat.le_of_ble_eq_true rfl)) a0)) (Nat.le_of_ble_eq_true rfl)) a0)) (Nat.le_of_ble_eq_true rfl)) (aI cI a0))) (Nat.le_of_ble_eq_true rfl)) a0)) (Nat.le_of_ble_eq_true rfl)) rfl rfl (o_catL (f := (p3 PyData.str idD PyData.str)) (l := bad13) (m := [(("joined_all" : Str), ((p2 PyData.int (opt (p2 PyData.int (p1 PyData.int)))) (u_, none)), ("numbers" : Str)), (("joined_all" : Str), ((p2 PyData.int (opt (p2 PyData.int (p1 PyData.int)))) (u_, (some ((2 : Int), (1 : Int))))), ("numbers" : Str))]) h_t14)) rfl ?_))
  show wS _ [im (idD odd), im (PyData.int u_), im ((ls (p3 PyData.str idD PyData.str)) bad15), none, none] _
  obtain ⟨bad17, h_t16, h⟩ := bnd h
  refine w_seq ((t_setL (f := (p3 PyData.str idD PyData.str)) (v := bad17) (w := bad17) rfl (binX (vI rfl) (lstX (aI (tupI (aI cI (aI (tupI (aI (vI rfl) (aI (vI rfl) (aI (vI rfl) a0))) (Nat.le_of_ble_eq_true rfl)) (aI cI a0))) (Nat.le_of_ble_eq_true rfl)) (aI (tupI (aI cI (aI (tupI (aI (negI cI) (aI cI (aI cI a0))) (Nat.le_of_ble_eq_true rfl)) (aI cI a0))) (Nat.le_of_ble_eq_true rfl)) a0)) (Nat.le_of_ble_eq_true rfl)) rfl rfl (o_catL (f := (p3 PyData.str idD PyData.str)) (l := bad15) (m := [(("joined_many" : Str), ((p3 idD idD idD) (odd, odd, odd)), ("width" : Str)), (("joined_many" : Str), ((p3 idD idD idD) ((PyData.int (-1 : Int)), (PyData.int (1 : Int)), (PyData.int (1 : Int)))), ("width" : Str))]) h_t16)) rfl ?_))
  show wS _ [im (idD odd), im (PyData.int u_), im ((ls (p3 PyData.str idD PyData.str)) bad17), none, none] _
  obtain ⟨bad19, h_t18, h⟩ := bnd h
  refine w_seq ((t_setL (f := (p3 PyData.str idD PyData.str)) (v := bad19) (w := bad19) rfl (binX (vI rfl) (lstX (aI (tupI (aI cI (aI (tupI (aI (vI rfl) (aI (vI rfl) (aI (vI rfl) a0))) (Nat.le_of_ble_eq_true rfl)) (aI cI a0))) (Nat.le_of_ble_eq_true rfl)) (aI (tupI (aI cI (aI (tupI (aI (vI rfl) (aI (negI cI) (aI cI a0))) (Nat.le_of_ble_eq_true rfl)) (aI cI a0))) (Nat.le_of_ble_eq_true rfl)) a0)) (Nat.le_of_ble_eq_true rfl)) rfl rfl (o_catL (f := (p3 PyData.str idD PyData.str)) (l := bad17) (m := [(("joined_many" : Str), ((p3 PyData.int idD idD) (u_, odd, odd)), ("number" : Str)), (("joined_many" : Str), ((p3 PyData.int idD idD) (u_, (PyData.int (-1 : Int)), (PyData.int (0 : Int)))), ("number" : Str))]) h_t18)) rfl ?_))
  show wS _ [im (idD odd), im (PyData.int u_), im ((ls (p3 PyData.str idD PyData.str)) bad19), none, none] _
  obtain ⟨bad21, h_t20, h⟩ := bnd h
  refine w_seq ((t_setL (f := (p3 PyData.str idD PyData.str)) (v := bad21) (w := bad21) rfl (binX (vI rfl) (lstX (aI (tupI (aI cI (aI (tupI (aI (vI rfl) (aI cI (aI (vI rfl) a0))) (Nat.le_of_ble_eq_true rfl)) (aI cI a0))) (Nat.le_of_ble_eq_true rfl)) (aI (tupI (aI cI (aI (tupI (aI (vI rfl) (aI cI (aI (negI cI) a0))) (Nat.le_of_ble_eq_true rfl)) (aI cI a0))) (Nat.le_of_ble_eq_true rfl)) a0)) (Nat.le_of_ble_eq_true rfl)) rfl rfl (o_catL (f := (p3 PyData.str idD PyData.str)) (l := bad19) (m := [(("joined_many" : Str), ((p3 PyData.int PyData.int idD) (u_, (2 : Int), odd)), ("many" : Str)), (("joined_many" : Str), ((p3 PyData.int PyData.int idD) (u_, (0 : Int), (PyData.int (-1 : Int)))), ("many" : Str))]) h_t20)) rfl ?_))
  show wS _ [im (idD odd), im (PyData.int u_), im ((ls (p3 PyData.str idD PyData.str)) bad21), none, none] _
  obtain ⟨bad23, h_t22, h⟩ := bnd h
  refine w_seq ((t_setL (f := (p3 PyData.str idD PyData.str)) (v := bad23) (w := bad23) rfl (binX (vI rfl) (lstX (aI (tupI (aI cI (aI (tupI (aI (vI rfl) (aI cI (aI cI a0))) (Nat.le_of_ble_eq_true rfl)) (aI cI a0))) (Nat.le_of_ble_eq_true rfl)) (aI (tupI (aI cI (aI (tupI (aI cI (aI cI (aI cI a0))) (Nat.le_of_ble_eq_true rfl)) (aI cI a0))) (Nat.le_of_ble_eq_true rfl)) a0)) (Nat.le_of_ble_eq_true rfl)) rfl rfl (o_catL (f := (p3 PyData.str idD PyData.str)) (l := bad21) (m := [(("joined_many" : Str), ((p3 idD PyData.int idD) ((PyData.int u_), (1 : Int), (PyData.bool true))), ("many" : Str)), (("joined_many" : Str), ((p3 idD PyData.int idD) ((PyData.bool true), (1 : Int), (PyData.int (1 : Int)))), ("width" : Str))]) h_t22)) rfl ?_))
  show wS _ [im (idD odd), im (PyData.int u_), im ((ls (p3 PyData.str idD PyData.str)) bad23), none, none] _
  obtain ⟨l_, hl, h⟩ := bnd h
  refine w_seq ((t_forG (p3 PyData.str idD PyData.str) bad23 (fun x_1 (s_ : Unit) => f_w_refusals_L1 u_ bad23 x_1) (fun (s_ : Unit) e => ∃ (o28 : Option PyData), e = [im (idD odd), im (PyData.int u_), im ((ls (p3 PyData.str idD PyData.str)) bad23), imo o28, none]) (rtI PyData.bool) (seqLX (f := (p3 PyData.str idD PyData.str)) (l := bad23) (vI rfl)) ⟨none, rfl⟩ hl (fun x_1 s_ l2_ h e he => ?_) (fun s32 hs e he => ?_) (fun r_ hs r2_ e hr => ?_)))
  · obtain ⟨o28, rfl⟩ := he
    refine ⟨rfl, _, rfl, ?_⟩
    show wS _ [im (idD odd), im (PyData.int u_), im ((ls (p3 PyData.str idD PyData.str)) bad23), im ((p3 PyData.str idD PyData.str) x_1), none] _
    replace h : f_w_refusals_L1 u_ bad23 x_1 = some l2_ := h
    unfold f_w_refusals_L1 at h
    obtain ⟨t29, h_t29, h⟩ := bnd h
    obtain ⟨t30, h_t30, h⟩ := bnd h
    refine (w_if (b := t30) (bang (binX (callI (aI (binX (vI rfl) cI rfl rfl rfl) (aI (binX (vI rfl) cI rfl rfl rfl) a0)) rfl (k__law_word h_t29)) (binX (vI rfl) cI rfl rfl rfl) rfl rfl (bD_ok h_t30))) (fun hc31 => ?_) (fun hc31 => ?_))
    · rw [if1 hc31] at h
      cases h
      refine (w_ret cI ?_)
      exact rfl
    · rw [if0 hc31] at h
      refine w_nx ?_
      cases h
      exact ⟨some ((p3 PyData.str idD PyData.str) x_1), rfl⟩
  · subst hs
    replace h : _ = some r := h
    dsimp only at h
    obtain ⟨o33, rfl⟩ := he
    show wS _ [im (idD odd), im (PyData.int u_), im ((ls (p3 PyData.str idD PyData.str)) bad23), imo o33, none] _
    obtain ⟨good34, h_good34, h⟩ := bnd h
    refine w_seq ((t_setL (f := (p3 PyData.str idD PyData.int)) (v := [(("joined" : Str), ((tp idD) [(PyData.int u_), (PyData.int (0 : Int)), (PyData.int (0 : Int))]), (0 : Int)), (("joined" : Str), ((tp idD) [(PyData.int u_), (PyData.int (0 : Int)), (PyData.int u_)]), u_), (("joined" : Str), ((tp idD) [(PyData.int (1 : Int)), (PyData.int (4 : Int)), (PyData.int (9 : Int))]), (9 : Int)), (("joined_all" : Str), ((tp idD) [(PyData.int u_), ((tp PyData.int) [])]), (0 : Int))]) (w := good34) h_good34 (lstX (aI (tupI (aI cI (aI (tupI (aI (vI rfl) (aI cI (aI cI a0))) (Nat.le_of_ble_eq_true rfl)) (aI cI a0))) (Nat.le_of_ble_eq_true rfl)) (aI (tupI (aI cI (aI (tupI (aI (vI rfl) (aI cI (aI (vI rfl) a0))) (Nat.le_of_ble_eq_true rfl)) (aI (vI rfl) a0))) (Nat.le_of_ble_eq_true rfl)) (aI (tupI (aI cI (aI (tupI (aI cI (aI cI (aI cI a0))) (Nat.le_of_ble_eq_true rfl)) (aI cI a0))) (Nat.le_of_ble_eq_true rfl)) (aI (tupI (aI cI (aI (tupI (aI (vI rfl) (aI (tupI a0 (Nat.le_of_ble_eq_true rfl)) a0)) (Nat.le_of_ble_eq_true rfl)) (aI cI a0))) (Nat.le_of_ble_eq_true rfl)) a0)))) (Nat.le_of_ble_eq_true rfl)) rfl ?_))
    show wS _ [im (idD odd), im (PyData.int u_), im ((ls (p3 PyData.str idD PyData.str)) bad23), imo o33, im ((ls (p3 PyData.str idD PyData.int)) good34)] _
    obtain ⟨good36, h_t35, h⟩ := bnd h
    refine w_seq ((t_setL (f := (p3 PyData.str idD PyData.int)) (v := good36) (w := good36) rfl (binX (vI rfl) (lstX (aI (tupI (aI cI (aI (tupI (aI (vI rfl) (aI (tupI (aI cI (aI cI (aI cI a0))) (Nat.le_of_ble_eq_true rfl)) a0)) (Nat.le_of_ble_eq_true rfl)) (aI cI a0))) (Nat.le_of_ble_eq_true rfl)) (aI (tupI (aI cI (aI (tupI (aI (vI rfl) (aI (tupI (aI cI a0) (Nat.le_of_ble_eq_true rfl)) a0)) (Nat.le_of_ble_eq_true rfl)) (aI cI a0))) (Nat.le_of_ble_eq_true rfl)) (aI (tupI (aI cI (aI (tupI (aI (vI rfl) (aI cI (aI cI a0))) (Nat.le_of_ble_eq_true rfl)) (aI cI a0))) (Nat.le_of_ble_eq_true rfl)) a0))) (Nat.le_of_ble_eq_true rfl)) rfl rfl (o_catL (f := (p3 PyData.str idD PyData.int)) (l := good34) (m := [(("joined_all" : Str), ((tp idD) [(PyData.int u_), ((p3 PyData.int PyData.int PyData.int) ((0 : Int), (0 : Int), (7 : Int)))]), (7 : Int)), (("joined_all" : Str), ((tp idD) [(PyData.int u_), ((p1 PyData.int) (0 : Int))]), (0 : Int)), (("joined_many" : Str), ((tp idD) [(PyData.int u_), (PyData.int (5 : Int)), (PyData.int (0 : Int))]), (0 : Int))]) h_t35)) rfl ?_))
    show wS _ [im (idD odd), im (PyData.int u_), im ((ls (p3 PyData.str idD PyData.str)) bad23), imo o33, im ((ls (p3 PyData.str idD PyData.int)) good36)] _
    obtain ⟨good38, h_t37, h⟩ := bnd h
    refine w_seq ((t_setL (f := (p3 PyData.str idD PyData.int)) (v := good38) (w := good38) rfl (binX (vI rfl) (lstX (aI (tupI (aI cI (aI (tupI (aI (vI rfl) (aI cI (aI cI a0))) (Nat.le_of_ble_eq_true rfl)) (aI cI a0))) (Nat.le_of_ble_eq_true rfl)) (aI (tupI (aI cI (aI (tupI (aI (vI rfl) (aI cI (aI cI a0))) (Nat.le_of_ble_eq_true rfl)) (aI cI a0))) (Nat.le_of_ble_eq_true rfl)) (aI (tupI (aI cI (aI (tupI (aI cI (aI cI (aI cI a0))) (Nat.le_of_ble_eq_true rfl)) (aI cI a0))) (Nat.le_of_ble_eq_true rfl)) a0))) (Nat.le_of_ble_eq_true rfl)) rfl rfl (o_catL (f := (p3 PyData.str idD PyData.int)) (l := good36) (m := [(("joined_many" : Str), ((p3 PyData.int PyData.int PyData.int) (u_, (0 : Int), (9 : Int))), (0 : Int)), (("joined_many" : Str), ((p3 PyData.int PyData.int PyData.int) (u_, (5 : Int), (1 : Int))), (5 : Int)), (("joined_many" : Str), ((p3 PyData.int PyData.int PyData.int) ((1 : Int), (8 : Int), (6 : Int))), (8 : Int))]) h_t37)) rfl ?_))
    show wS _ [im (idD odd), im (PyData.int u_), im ((ls (p3 PyData.str idD PyData.str)) bad23), imo o33, im ((ls (p3 PyData.str idD PyData.int)) good38)] _
    obtain ⟨l_, hl, h⟩ := bnd h
    refine w_seq ((t_forG (p3 PyData.str idD PyData.int) good38 (fun x_2 (s_ : Unit) => f_w_refusals_L2 good38 x_2) (fun (s_ : Unit) e => ∃ (o46 : Option PyData), e = [im (idD odd), im (PyData.int u_), im ((ls (p3 PyData.str idD PyData.str)) bad23), imo o46, im ((ls (p3 PyData.str idD PyData.int)) good38)]) (rtI PyData.bool) (seqLX (f := (p3 PyData.str idD PyData.int)) (l := good38) (vI rfl)) ⟨o33, rfl⟩ hl (fun x_2 s_ l2_ h e he => ?_) (fun s53 hs e he => ?_) (fun r_ hs r2_ e hr => ?_)))
    · obtain ⟨o46, rfl⟩ := he
      refine ⟨rfl, _, rfl, ?_⟩
      show wS _ [im (idD odd), im (PyData.int u_), im ((ls (p3 PyData.str idD PyData.str)) bad23), im ((p3 PyData.str idD PyData.int) x_2), im ((ls (p3 PyData.str idD PyData.int)) good38)] _
      replace h : f_w_refusals_L2 good38 x_2 = some l2_ := h
      unfold f_w_refusals_L2 at h
      obtain ⟨t47, h_t47, h⟩ := bnd h
      obtain ⟨t48, h_t48, h⟩ := bnd h
      obtain ⟨t51, h_t51, h⟩ := bnd h
      refine (w_if (b := t51) (torX (bang (binX (callI (aI (binX (vI rfl) cI rfl rfl rfl) (aI (binX (vI rfl) cI rfl rfl rfl) a0)) rfl (k__law_word h_t47)) cI rfl rfl (bD_ok h_t48))) h_t51 (fun _ _ hq => (by obtain ⟨t49, h_t49, hq⟩ := bnd hq; obtain ⟨t50, h_t50, hq⟩ := bnd hq; have hq := Option.some.inj hq; subst hq; exact (tnot (bang (callI (aI (callI (aI (binX (vI rfl) cI rfl rfl rfl) (aI (binX (vI rfl) cI rfl rfl rfl) a0)) rfl (k__law_ask h_t49)) (aI (binX (vI rfl) cI rfl rfl rfl) a0)) rfl (k__law_is h_t50))))))) (fun hc52 => ?_) (fun hc52 => ?_))
      · rw [if1 hc52] at h
        cases h
        refine (w_ret cI ?_)
        exact rfl
      · rw [if0 hc52] at h
        refine w_nx ?_
        cases h
        exact ⟨some ((p3 PyData.str idD PyData.int) x_2), rfl⟩
    · subst hs
      replace h : _ = some r := h
      dsimp only at h
      obtain ⟨o54, rfl⟩ := he
      show wS _ [im (idD odd), im (PyData.int u_), im ((ls (p3 PyData.str idD PyData.str)) bad23), imo o54, im ((ls (p3 PyData.str idD PyData.int)) good38)] _
      cases h
      refine w_seq ((w_ret cI ?_))
      exact rfl
    · subst hs
      cases h
      exact hr
  · subst hs
    cases h
    exact hr
theorem k_law {script : (List Int)} {r : Bool} (h : f_law script = some r) : F_law [(ls PyData.int) script] = some (.im (PyData.bool r)) := by
  unfold f_law at h
  refine t_fnI (enc := PyData.bool) rfl ?_
  show wS _ [im ((ls PyData.int) script), none, none, none, none, none] _
  obtain ⟨d_2, h_t1, h⟩ := bnd h
  refine w_seq ((t_setL (f := PyData.int) (v := d_2) (w := d_2) rfl (callA (aI (vI rfl) (aI cI a0)) rfl (k__law_draws h_t1)) rfl ?_))
  show wS _ [im ((ls PyData.int) script), im ((ls PyData.int) d_2), none, none, none, none] _
  obtain ⟨pairs3, h_pairs3, h⟩ := bnd h
  refine w_seq ((t_setL (f := (p2 PyData.int PyData.int)) (v := [((1 : Int), (12 : Int)), ((2 : Int), (5 : Int)), ((3 : Int), (4 : Int)), ((4 : Int), (3 : Int)), ((5 : Int), (2 : Int)), ((2 : Int), (6 : Int)), ((6 : Int), (2 : Int)), ((9 : Int), (1 : Int))]) (w := pairs3) h_pairs3 (lstX (aI (tupI (aI cI (aI cI a0)) (Nat.le_of_ble_eq_true rfl)) (aI (tupI (aI cI (aI cI a0)) (Nat.le_of_ble_eq_true rfl)) (aI (tupI (aI cI (aI cI a0)) (Nat.le_of_ble_eq_true rfl)) (aI (tupI (aI cI (aI cI a0)) (Nat.le_of_ble_eq_true rfl)) (aI (tupI (aI cI (aI cI a0)) (Nat.le_of_ble_eq_true rfl)) (aI (tupI (aI cI (aI cI a0)) (Nat.le_of_ble_eq_true rfl)) (aI (tupI (aI cI (aI cI a0)) (Nat.le_of_ble_eq_true rfl)) (aI (tupI (aI cI (aI cI a0)) (Nat.le_of_ble_eq_true rfl)) a0)))))))) (Nat.le_of_ble_eq_true rfl)) rfl ?_))
  show wS _ [im ((ls PyData.int) script), im ((ls PyData.int) d_2), im ((ls (p2 PyData.int PyData.int)) pairs3), none, none, none] _
  obtain ⟨t4, h_t4, h⟩ := bnd h
  obtain ⟨pair6, h_t5, h⟩ := bnd h
  refine w_seq ((t_set (f := (p2 PyData.int PyData.int)) (v := pair6) (w := pair6) rfl (binX (vI rfl) (binX (binX (vI rfl) cI rfl rfl (o_ixL (f := PyData.int) (l := d_2) h_t4)) cI rfl rfl (e_mod (by decide))) rfl rfl (o_ixL (f := (p2 PyData.int PyData.int)) (l := pairs3) h_t5)) rfl ?_))
  show wS _ [im ((ls PyData.int) script), im ((ls PyData.int) d_2), im ((ls (p2 PyData.int PyData.int)) pairs3), im ((p2 PyData.int PyData.int) pair6), none, none] _
  obtain ⟨t7, h_t7, h⟩ := bnd h
  refine w_seq ((w_if (b := (!t7)) (tnot (bang (callI (aI (binX (vI rfl) cI rfl rfl rfl) (aI (binX (vI rfl) cI rfl rfl rfl) (aI (vI rfl) a0))) rfl (k__law_small h_t7)))) (fun hc8 => ?_) (fun hc8 => ?_)))
  · rw [if1 hc8] at h
    cases h
    refine (w_ret cI ?_)
    exact rfl
  · rw [if0 hc8] at h
    refine w_nx ?_
    show wS _ [im ((ls PyData.int) script), im ((ls PyData.int) d_2), im ((ls (p2 PyData.int PyData.int)) pairs3), im ((p2 PyData.int PyData.int) pair6), none, none] _
    obtain ⟨t9, h_t9, h⟩ := bnd h
    obtain ⟨u_10, h_u_10, h⟩ := bnd h
    refine w_seq ((t_set (f := PyData.int) (v := ((1 : Int) + (t9 % (40 : Int)))) (w := u_10) h_u_10 (binX cI (binX (binX (vI rfl) cI rfl rfl (o_ixL (f := PyData.int) (l := d_2) h_t9)) cI rfl rfl (e_mod (by decide))) rfl rfl e_add) rfl ?_))
    show wS _ [im ((ls PyData.int) script), im ((ls PyData.int) d_2), im ((ls (p2 PyData.int PyData.int)) pairs3), im ((p2 PyData.int PyData.int) pair6), im (PyData.int u_10), none] _
    obtain ⟨t11, h_t11, h⟩ := bnd h
    refine t_join (fun (u__ : Int) e => e = [im ((ls PyData.int) script), im ((ls PyData.int) d_2), im ((ls (p2 PyData.int PyData.int)) pairs3), im ((p2 PyData.int PyData.int) pair6), im (PyData.int u__), none]) (fun (u__ : Int) => f_law_J1 d_2 u__) (t := r) (fun u__ e he h => ?_) ?_
    · subst he
      replace h : f_law_J1 d_2 u__ = some r := h
      unfold f_law_J1 at h
      show wS _ [im ((ls PyData.int) script), im ((ls PyData.int) d_2), im ((ls (p2 PyData.int PyData.int)) pairs3), im ((p2 PyData.int PyData.int) pair6), im (PyData.int u__), none] _
      obtain ⟨t23, h_t23, h⟩ := bnd h
      refine w_seq ((w_if (b := (!t23)) (tnot (bang (callI (aI (vI rfl) (aI (vI rfl) a0)) rfl (k__law_far h_t23)))) (fun hc24 => ?_) (fun hc24 => ?_)))
      · rw [if1 hc24] at h
        cases h
        refine (w_ret cI ?_)
        exact rfl
      · rw [if0 hc24] at h
        refine w_nx ?_
        show wS _ [im ((ls PyData.int) script), im ((ls PyData.int) d_2), im ((ls (p2 PyData.int PyData.int)) pairs3), im ((p2 PyData.int PyData.int) pair6), im (PyData.int u__), none] _
        obtain ⟨t25, h_t25, h⟩ := bnd h
        obtain ⟨odds26, h_odds26, h⟩ := bnd h
        refine w_seq ((t_setL (f := idD) (v := [(nn ()), (PyData.str ("3" : Str)), ((ls PyData.int) []), (PyData.int (-1 : Int)), ((p1 PyData.int) (2 : Int)), (PyData.bool false), (PyData.bool true), (PyData.int (-t25))]) (w := odds26) h_odds26 (lstX (aI cI (aI cI (aA (lstX a0 (Nat.le_of_ble_eq_true rfl)) (aI (negI cI) (aI (tupI (aI cI a0) (Nat.le_of_ble_eq_true rfl)) (aI cI (aI cI (aI (negI (binX cI cI rfl rfl (o_pow h_t25))) a0)))))))) (Nat.le_of_ble_eq_true rfl)) rfl ?_))
        show wS _ [im ((ls PyData.int) script), im ((ls PyData.int) d_2), im ((ls (p2 PyData.int PyData.int)) pairs3), im ((p2 PyData.int PyData.int) pair6), im (PyData.int u__), im ((ls idD) odds26)] _
        obtain ⟨t27, h_t27, h⟩ := bnd h
        obtain ⟨t28, h_t28, h⟩ := bnd h
        obtain ⟨t29, h_t29, h⟩ := bnd h
        obtain ⟨t30, h_t30, h⟩ := bnd h
        cases h
        refine w_seq ((w_ret (callI (aI (binX (vI rfl) (binX (binX (vI rfl) cI rfl rfl (o_ixL (f := PyData.int) (l := d_2) h_t27)) cI rfl rfl (e_mod (by decide))) rfl rfl (o_ixL (f := idD) (l := odds26) h_t28)) (aI (binX cI (binX (binX (vI rfl) cI rfl rfl (o_ixL (f := PyData.int) (l := d_2) h_t29)) cI rfl rfl (e_mod (by decide))) rfl rfl e_add) a0)) rfl (k__law_refusals h_t30)) ?_))
        exact rfl
    · refine ((w_if (b := (decide ((0 : Int) < (t11 % (4 : Int))))) (bang (binX (binX (binX (vI rfl) cI rfl rfl (o_ixL (f := PyData.int) (l := d_2) h_t11)) cI rfl rfl (e_mod (by decide))) cI rfl rfl e_qgt)) (fun hc12 => ?_) (fun hc12 => ?_)))
      · rw [if1 hc12] at h
        obtain ⟨t31, h_t31, h⟩ := bnd h
        obtain ⟨u_32, h_u_32, h⟩ := bnd h
        refine (t_set (f := PyData.int) (v := ((1 : Int) + (t31 % (8 : Int)))) (w := u_32) h_u_32 (binX cI (binX (binX (vI rfl) cI rfl rfl (o_ixL (f := PyData.int) (l := d_2) h_t31)) cI rfl rfl (e_mod (by decide))) rfl rfl e_add) rfl ?_)
        exact ⟨u_32, rfl, h⟩
      · rw [if0 hc12] at h
        refine w_nx ?_
        exact ⟨u_10, rfl, h⟩
end K19
namespace DL
open PySem PySem.Spec PyProof.Rows L2
def sh (w : Nat) (f : Int) (row : List Int) : Int := if w ≤ row.length ∧ f ≤ gv row w then gv row w + 1 else f
def srow (w : Nat) (f : Int) (row : List Int) : List Int := (row.filter fun m => decide (sh w f row ≤ m)) ++ [sh w f row]
abbrev Down (l : List Int) : Prop := l.Pairwise (· ≥ ·)
theorem down_downI (l : List Int) : Down (downI l) := by
  have z := sortB_pw (le := fun a b : Int => decide (b ≤ a)) (fun a b c h1 h2 => by simp at *; omega) (fun a b => by simp; omega) l
  exact z.imp fun h => by simpa using h
section
variable (W : Nat → Nat) (F : Nat → Int) (p : Nat → Nat) (n : Nat)
def rwo (v : Nat) (mem : List Int) : List Int := srow (W v) (F v) (downI mem)
/-- what lies below u once k versions are gone through, from the last one on -/
def bl : Nat → Nat → List Int
  | 0, _ => []
  | k + 1, u => if u = p (n - k) then bl k u ++ rwo W F (n - k) (bl k (n - k)) else bl k u
def row (v : Nat) : List Int := rwo W F v (bl W F p n (n - v) v)
end
end DL
namespace DL
open PySem PySem.Spec PyProof.Rows L2
def lx : List Int → List Int → Prop
  | [], _ => True
  | _ :: _, [] => False
  | x :: xs, y :: ys => x < y ∨ (x = y ∧ lx xs ys)
end DL
namespace DL
open PySem PySem.Spec PyProof.Rows L2
abbrev Par (p : Nat → Nat) (n : Nat) : Prop := ∀ v, 1 ≤ v → v ≤ n → p v < v
section
variable (p : Nat → Nat) (h : Nat → Int)
/-- from u up to v nobody is higher than t -/
def opB (v : Nat) (t : Int) : Nat → Nat → Bool
  | 0, u => u == v
  | k + 1, u => u == v || (decide (v < u) && (decide (h (p u) ≤ t) && opB v t k (p u)))
def op (v : Nat) (t : Int) (u : Nat) : Bool := opB p h v t u u
end
section
variable {p : Nat → Nat} {h : Nat → Int} {n : Nat} (hp : Par p n)
include hp
theorem opB_more {v : Nat} {t : Int} : ∀ (u k : Nat), u ≤ n → u ≤ k → opB p h v t k u = opB p h v t u u := by
  intro u
  induction u using Nat.strongRecOn with
  | ind u ih =>
    intro k hu hk
    by_cases z : u = 0
    · subst z
      cases k with
      | zero => rfl
      | succ k =>
        show ((0 == v) || (decide (v < 0) && _)) = (0 == v)
        simp
    · obtain ⟨k, rfl⟩ : ∃ j, k = j + 1 := ⟨k - 1, by omega⟩
      obtain ⟨u, rfl⟩ : ∃ j, u = j + 1 := ⟨u - 1, by omega⟩
      have l := hp (u + 1) (by omega) hu
      show (_ || (_ && (_ && opB p h v t k (p (u + 1))))) = (_ || (_ && (_ && opB p h v t u (p (u + 1)))))
      rw [ih (p (u + 1)) l k (by omega) (by omega), ih (p (u + 1)) l u (by omega) (by omega)]
theorem op_eq {v u : Nat} {t : Int} (h1 : 1 ≤ u) (h2 : u ≤ n) : op p h v t u = (u == v || (decide (v < u) && (decide (h (p u) ≤ t) && op p h v t (p u)))) := by
  obtain ⟨u, rfl⟩ : ∃ j, u = j + 1 := ⟨u - 1, by omega⟩
  have l := hp (u + 1) (by omega) h2
  unfold op
  rw [← opB_more hp (h := h) (v := v) (t := t) (p (u + 1)) u (by omega) (by omega)]
  rfl
theorem op_ge {v t} : ∀ u, u ≤ n → op p h v t u = true → v ≤ u := by
  intro u
  cases u with
  | zero =>
    intro _ z
    have e : (0 == v) = true := z
    have := eq_of_beq e
    omega
  | succ u =>
    intro hu z
    rw [op_eq hp (by omega) hu, Bool.or_eq_true, Bool.and_eq_true] at z
    rcases z with z | z
    · have := eq_of_beq z
      omega
    · have := of_decide_eq_true z.1
      omega
end
end DL
namespace DL
open PySem PySem.Spec PyProof.Rows L2
end DL
namespace DL
open PySem PySem.Spec PyProof.Rows L2
section
variable {α β γ σ ρ τ X : Type}
theorem bs {o : Option α} {k : α → Option β} {a : α} {b : Option β} (h : o = some a) (q : k a = b) : o.bind k = b := by rw [h]; exact q
theorem bsX {o : Option α} {k : α → Option β} {a : α} {Q : β → Prop} (h : o = some a) (q : ∃ b, k a = some b ∧ Q b) : ∃ b, o.bind k = some b ∧ Q b := by
  rw [h]; exact q
theorem iT {c : Bool} {a b r : α} (h : c = true) (q : a = r) : (if c = true then a else b) = r := by rw [if_pos h]; exact q
theorem iF {c : Bool} {a b r : α} (h : c = false) (q : b = r) : (if c = true then a else b) = r := by rw [if_neg (by rw [h]; exact Bool.false_ne_true)]; exact q
theorem iTX {c : Bool} {a b : Option α} {Q : α → Prop} (h : c = true) (q : ∃ r, a = some r ∧ Q r) : ∃ r, (if c = true then a else b) = some r ∧ Q r := by rw [if_pos h]; exact q
theorem iFX {c : Bool} {a b : Option α} {Q : α → Prop} (h : c = false) (q : ∃ r, b = some r ∧ Q r) : ∃ r, (if c = true then a else b) = some r ∧ Q r := by rw [if_neg (by rw [h]; exact Bool.false_ne_true)]; exact q
theorem orF1 {q : Bool} {o : Option Bool} (h : o = some q) : orO false o = some q := h
theorem andTT {p : Bool} {o : Option Bool} (h1 : p = true) (h : o = some true) : andO p o = some true := by rw [h1]; exact h
theorem atI_nn {l : List α} {k : Nat} : atI l (k : Int) = l[k]? := atI_nat l k
theorem atI_at [Inhabited α] {l : List α} {k : Nat} (h : k < l.length) : atI l (k : Int) = some (gv l (k + 1)) := by
  rw [atI_nn, gv_get h]
theorem gv_iN {P : List Nat} {v : Nat} (h1 : 1 ≤ v) (h2 : v ≤ P.length) : gv (iN P) v = ((gv P v : Nat) : Int) := by
  have z := gv_get (l := iN P) (k := v - 1) (by unfold iN; rw [List.length_map]; omega)
  have y := gv_get (l := P) (k := v - 1) (by omega)
  rw [Nat.sub_add_cancel h1] at z y
  unfold iN at z
  rw [List.getElem?_map, y] at z
  exact (Option.some.inj z).symm
theorem len_iN {P : List Nat} : (iN P).length = P.length := List.length_map _
theorem atI_rg {f : Nat → α} {n k : Nat} (h : k < n) : atI ((List.range n).map f) (k : Int) = some (f k) := by
  rw [atI_nn, List.getElem?_map, List.getElem?_range h]
  rfl
theorem l_rg [Inhabited α] (l : List α) : l = (List.range l.length).map fun k => gv l (k + 1) := by
  refine List.ext_getElem? fun i => ?_
  rw [List.getElem?_map]
  by_cases hi : i < l.length
  · rw [gv_get hi, List.getElem?_range hi]
    rfl
  · rw [List.getElem?_eq_none (by omega), List.getElem?_eq_none (by rw [List.length_range]; omega)]
    rfl
theorem enum_rg [Inhabited α] (l : List α) : enumL l = (List.range l.length).map fun (k : Nat) => ((k : Int), gv l (k + 1)) := by
  refine List.ext_getElem? fun i => ?_
  unfold enumL
  rw [List.getElem?_zipWith, List.getElem?_map]
  by_cases hi : i < l.length
  · rw [gv_get hi, List.getElem?_range hi]
    rfl
  · rw [List.getElem?_eq_none (l := List.range l.length) (by rw [List.length_range]; omega)]
    rfl
theorem appO_ok {l : List α} {a : α} (h : l.length + 1 ≤ 16777216) : appO l a = some (l ++ [a]) := if_pos h
theorem catO_ok {l m : List α} (h : l.length + m.length ≤ 16777216) : catO l m = some (l ++ m) := if_pos h
theorem repO_ok {a : α} {n : Nat} (h : n ≤ 1000000) : repO [a] ((n : Int) + 1) = some (List.replicate (n + 1) a) := by
  unfold repO
  have e : ((n : Int) + 1).toNat = n + 1 := by omega
  rw [e, if_pos]
  · congr 1
    generalize n + 1 = m
    induction m with
    | zero => rfl
    | succ m ih => rw [List.replicate_succ, List.flatten_cons, ih]; rfl
  · simp only [List.length_cons, List.length_nil, Bool.and_eq_true, decide_eq_true_eq]
    exact ⟨okLen_yes (by omega), ⟨by omega, by omega⟩, okLen_yes (by omega)⟩
theorem rgC_n {m : Int} (h : 0 ≤ m) (h2 : m ≤ 1000001) : rgC m = true := decide_eq_true (by omega)
theorem rng1O_n {n : Nat} (h : n ≤ 1000000) : rng1O (n : Int) = some ((List.range n).map fun (k : Nat) => (k : Int)) := by
  unfold rng1O
  rw [rgC_n (by omega) (by omega), if_pos rfl]
  rfl
theorem forS_n {n : Nat} {f : Nat → X} {S : Nat → σ} {body : X → σ → Option σ} (h : ∀ k, k < n → body (f k) (S k) = some (S (k + 1))) : forS body ((List.range n).map f) (S 0) = some (S n) := by
  have go : ∀ (m a : Nat), a + m = n → forS body ((List.range' a m).map f) (S a) = some (S n) := by
    intro m
    induction m with
    | zero => intro a ha; rw [show a = n by omega]; rfl
    | succ m ih =>
      intro a ha
      rw [List.range'_succ, List.map_cons]
      show (body (f a) (S a)).bind _ = _
      rw [h a (by omega)]
      exact ih (a + 1) (by omega)
  rw [List.range_eq_range']
  exact go n 0 (by omega)
theorem forS_J {n : Nat} {f : Nat → X} (J : Nat → σ → Prop) {body : X → σ → Option σ} {s : σ} (h0 : J 0 s) (h : ∀ k, k < n → ∀ s, J k s → ∃ s', body (f k) s = some s' ∧ J (k + 1) s') : ∃ s', forS body ((List.range n).map f) s = some s' ∧ J n s' := by
  have go : ∀ (m a : Nat) (s : σ), a + m = n → J a s → ∃ s', forS body ((List.range' a m).map f) s = some s' ∧ J n s' := by
    intro m
    induction m with
    | zero => intro a s ha hs; rw [show n = a by omega]; exact ⟨s, rfl, hs⟩
    | succ m ih =>
      intro a s ha hs
      obtain ⟨s1, h1, h2⟩ := h a (by omega) s hs
      obtain ⟨s2, h3, h4⟩ := ih (a + 1) s1 (by omega) h2
      rw [List.range'_succ, List.map_cons]
      refine ⟨s2, ?_, h4⟩
      show (body (f a) s).bind _ = _
      rw [h1]
      exact h3
  rw [List.range_eq_range']
  exact go n 0 s (by omega) h0
theorem forG_all {l : List X} {body : X → Unit → Option (Lp Unit ρ)} (h : ∀ x ∈ l, body x () = some (.nx ())) : forG body l () = some (.nx ()) := by
  induction l with
  | nil => rfl
  | cons a l ih =>
    show (body a ()).bind _ = _
    rw [h a List.mem_cons_self]
    exact ih fun x m => h x (List.mem_cons_of_mem _ m)
theorem thenA {l : List X} {body : X → Unit → Option (Lp Unit ρ)} {rt : ρ → Option τ} {k : Unit → Option τ} {b : Option τ} (h : ∀ x ∈ l, body x () = some (.nx ())) (q : k () = b) : thenL (forG body l ()) rt k = b := by
  rw [thenL_nx (forG_all h)]
  exact q
theorem whT {c : σ → Option Bool} {body : σ → Option σ} {N : Nat} {s s' : σ} {r : Option σ} (h : c s = some true) (h2 : body s = some s') (q : whS c body N s' = r) : whS c body (N + 1) s = r := by
  show (c s).bind _ = _
  rw [h]
  show (body s).bind _ = _
  rw [h2]
  exact q
theorem whF {c : σ → Option Bool} {body : σ → Option σ} {N : Nat} {s : σ} (h : c s = some false) : whS c body (N + 1) s = some s := by
  show (c s).bind _ = _
  rw [h]
  rfl
theorem lcO_fm {p : X → Option Bool} {g : X → Option β} {p' : X → Bool} {g' : X → β} : ∀ {l : List X}, (∀ a ∈ l, p a = some (p' a)) → (∀ a ∈ l, p' a = true → g a = some (g' a)) → lcO p g l = some ((l.filter p').map g')
  | [], _, _ => rfl
  | a :: l, h1, h2 => by
    have ih := lcO_fm (l := l) (fun x m => h1 x (List.mem_cons_of_mem _ m)) fun x m => h2 x (List.mem_cons_of_mem _ m)
    show (p a).bind _ = _
    rw [h1 a List.mem_cons_self]
    show (if p' a = true then _ else _) = _
    by_cases z : p' a = true
    · rw [if_pos z, h2 a List.mem_cons_self z, List.filter_cons_of_pos z]
      show (lcO p g l).bind _ = _
      rw [ih]
      rfl
    · rw [if_neg z, List.filter_cons_of_neg z]
      exact ih
theorem lcC_fm {p : X → Option Bool} {g : X → Option β} {p' : X → Bool} {g' : X → β} {l : List X} (hl : l.length ≤ 16777216) (h1 : ∀ a ∈ l, p a = some (p' a)) (h2 : ∀ a ∈ l, p' a = true → g a = some (g' a)) : lcC p g l = some ((l.filter p').map g') := by
  unfold lcC
  rw [if_pos hl, lcO_fm h1 h2]
theorem lcC_map {g : X → Option β} {g' : X → β} {l : List X} (hl : l.length ≤ 16777216) (h : ∀ a ∈ l, g a = some (g' a)) : lcC (fun _ => some true) g l = some (l.map g') := by
  rw [lcC_fm (p' := fun _ => true) (g' := g') hl (fun _ _ => rfl) (fun a m _ => h a m), List.filter_eq_self.mpr fun _ _ => rfl]
theorem lcC_rg {n : Nat} {f : Nat → X} {g : X → Option β} {g' : Nat → β} (hl : n ≤ 16777216) (h : ∀ k, k < n → g (f k) = some (g' k)) : lcC (fun _ => some true) g ((List.range n).map f) = some ((List.range n).map g') := by
  unfold lcC
  rw [if_pos (by rw [List.length_map, List.length_range]; exact hl)]
  have go : ∀ l : List Nat, (∀ k ∈ l, k < n) → lcO (fun _ => some true) g (l.map f) = some (l.map g') := by
    intro l
    induction l with
    | nil => intro _; rfl
    | cons a l ih =>
      intro hm
      show (g (f a)).bind _ = _
      rw [h a (hm a List.mem_cons_self)]
      show (lcO _ g (l.map f)).bind _ = _
      rw [ih fun k m => hm k (List.mem_cons_of_mem _ m)]
      rfl
  exact go _ fun k m => List.mem_range.mp m
/-- numbers out of a list of numbers -/
theorem lcC_iN {p : Int → Option Bool} {p' : Nat → Bool} {l : List Nat} (hl : l.length ≤ 16777216) (h1 : ∀ a ∈ l, p (a : Int) = some (p' a)) : lcC p (fun x => some x) (iN l) = some (iN (l.filter p')) := by
  unfold lcC iN
  rw [if_pos (by rw [List.length_map]; exact hl)]
  have go : ∀ l : List Nat, (∀ a ∈ l, p (a : Int) = some (p' a)) → lcO p (fun x => some x) (l.map fun (n : Nat) => (n : Int)) = some ((l.filter p').map fun (n : Nat) => (n : Int)) := by
    intro l
    induction l with
    | nil => intro _; rfl
    | cons a l ih =>
      intro hm
      have ih := ih fun k m => hm k (List.mem_cons_of_mem _ m)
      show (p (a : Int)).bind _ = _
      rw [hm a List.mem_cons_self]
      show (if p' a = true then (lcO p _ _).bind _ else _) = _
      by_cases z : p' a = true
      · rw [if_pos z, List.filter_cons_of_pos z, ih]
        rfl
      · rw [if_neg z, List.filter_cons_of_neg z]
        exact ih
  exact go l h1
end
theorem mem_iN' {x : Int} {l : List Nat} : x ∈ iN l ↔ ∃ k ∈ l, x = (k : Int) := by
  unfold iN
  rw [List.mem_map]
  exact ⟨fun ⟨k, h1, h2⟩ => ⟨k, h1, h2.symm⟩, fun ⟨k, h1, h2⟩ => ⟨k, h1, h2.symm⟩⟩
end DL
namespace DL
open PySem PySem.Spec PyProof.Rows L2
end DL
namespace DL
open PySem PySem.Spec PyProof.Rows L2
end DL
namespace DL
open PySem PySem.Spec PyProof.Rows L2
theorem andTT' {p q : Bool} {o : Option Bool} (h1 : p = true) (h : o = some q) : andO p o = some q := by rw [h1]; exact h
theorem lcO_id {Y : Type} : ∀ l : List Y, lcO (fun _ : Y => some true) (fun y => some y) l = some l
  | [] => rfl
  | a :: l => by
    show (lcO _ _ l).bind _ = _
    rw [lcO_id l]
    rfl
theorem lc2C_ok {X Y : Type} {i : X → Option (List Y)} {js : X → List Y} {l : List X} (h : ∀ a ∈ l, i a = some (js a)) (hl : (l.flatMap js).length ≤ 16777216) : lc2C (fun _ => some true) i (fun _ _ => some true) (fun _ y => some y) l = some (l.flatMap js) := by
  have go : ∀ l : List X, (∀ a ∈ l, i a = some (js a)) → lc2O (fun _ => some true) i (fun _ _ => some true) (fun _ y => some y) l = some (l.flatMap js) := by
    intro l
    induction l with
    | nil => intro _; rfl
    | cons a l ih =>
      intro h
      show (i a).bind _ = _
      refine bs (h a List.mem_cons_self) ?_
      refine bs (lcO_id _) ?_
      refine bs (ih fun x m => h x (List.mem_cons_of_mem _ m)) ?_
      rw [List.flatMap_cons]
  unfold lc2C
  refine bs (go l h) ?_
  rw [if_pos hl]
end DL
namespace DL
open PySem PySem.Spec PyProof.Rows L2
structure OkB (n : Nat) (R : Int) (ws : List (Nat × Int)) : Prop where
  r1 : 1 ≤ R
  r2 : R ≤ 999
  len : ws.length = n
  all : ∀ x ∈ ws, 1 ≤ x.1 ∧ x.1 ≤ 999 ∧ 1 ≤ x.2 ∧ x.2 ≤ R
section
variable {P : List Nat} {R : Int} {ws : List (Nat × Int)} (O : OkB P.length R ws) (few : P.length ≤ 100)
include O few
theorem OkB.w {v : Nat} (h1 : 1 ≤ v) (h2 : v ≤ P.length) : 1 ≤ (gv ws v).1 ∧ (gv ws v).1 ≤ 999 := by
  have := O.all _ (gv_mem (l := ws) h1 (by rw [O.len]; exact h2))
  exact ⟨this.1, this.2.1⟩
end
end DL
namespace DL
open PySem PySem.Spec PyProof.Rows L2
end DL
namespace DL
open PySem
def bn : Nat → Nat → Nat
  | _, 0 => 1
  | 0, _ + 1 => 0
  | n + 1, k + 1 => bn n k + bn n (k + 1)
theorem bn_zero (n : Nat) : bn n 0 = 1 := by cases n <;> rfl
theorem bn_succ (n k : Nat) : bn (n + 1) (k + 1) = bn n k + bn n (k + 1) := rfl
theorem bn_gt : ∀ {n k : Nat}, n < k → bn n k = 0
  | 0, k + 1, _ => rfl
  | n + 1, k + 1, h => by
    rw [bn_succ, bn_gt (by omega), bn_gt (by omega)]
theorem bn_self : ∀ n : Nat, bn n n = 1
  | 0 => rfl
  | n + 1 => by
    rw [bn_succ, bn_self n, bn_gt (by omega)]
theorem bn_pos : ∀ {n k : Nat}, k ≤ n → 0 < bn n k
  | n, 0, _ => by
    rw [bn_zero]
    exact Nat.one_pos
  | n + 1, k + 1, h => by
    rw [bn_succ]
    have := bn_pos (show k ≤ n by omega)
    omega
theorem bn_one : ∀ n : Nat, bn n 1 = n
  | 0 => rfl
  | n + 1 => by
    rw [show (1 : Nat) = 0 + 1 from rfl, bn_succ, bn_zero, bn_one n]
    omega
/-- absorbing -/
theorem bn_abs : ∀ n k : Nat, bn (n + 1) (k + 1) * (k + 1) = bn n k * (n + 1)
  | 0, 0 => rfl
  | 0, k + 1 => by
    rw [bn_gt (show 0 + 1 < k + 1 + 1 by omega), bn_gt (show 0 < k + 1 by omega)]
    omega
  | n + 1, 0 => by
    rw [bn_zero, Nat.zero_add, bn_one]
    omega
  | n + 1, k + 1 => by
    have h1 := bn_abs n k
    have h2 := bn_abs n (k + 1)
    rw [bn_succ (n + 1) (k + 1), Nat.add_mul]
    have h3 : bn (n + 1) (k + 1) * (k + 1 + 1) = bn n k * (n + 1) + bn (n + 1) (k + 1) := by
      rw [Nat.mul_add, h1, Nat.mul_one]
    rw [h3, h2]
    have h4 := bn_succ n k
    have h5 : bn (n + 1) (k + 1) * (n + 1 + 1) = (bn n k + bn n (k + 1)) * (n + 1) + bn (n + 1) (k + 1) := by
      rw [Nat.mul_add, Nat.mul_one, h4]
    rw [h5, Nat.add_mul]
    omega
theorem bn_step {n k : Nat} (h : k ≤ n) : bn n (k + 1) * (k + 1) = bn n k * (n - k) := by
  have h1 := bn_abs n k
  rw [bn_succ, Nat.add_mul] at h1
  have h2 : bn n k * (n + 1) = bn n k * (k + 1) + bn n k * (n - k) := by
    rw [← Nat.mul_add]
    congr 1
    omega
  omega
theorem bn_sym : ∀ a b : Nat, bn (a + b) a = bn (a + b) b
  | 0, b => by rw [Nat.zero_add, bn_zero, bn_self]
  | a + 1, 0 => by rw [Nat.add_zero, bn_zero, bn_self]
  | a + 1, b + 1 => by
    have e1 : a + 1 + (b + 1) = (a + (b + 1)) + 1 := by omega
    have e2 : a + (b + 1) = (a + 1) + b := by omega
    rw [e1, bn_succ, bn_succ, bn_sym a (b + 1)]
    have := bn_sym (a + 1) b
    rw [e2, this]
    omega
theorem bn_sym' {n k : Nat} (h : k ≤ n) : bn n (n - k) = bn n k := by
  have := bn_sym (n - k) k
  rwa [Nat.sub_add_cancel h] at this
theorem bn_le_pow : ∀ n k : Nat, bn n k ≤ (n + 1) ^ k
  | n, 0 => by rw [bn_zero]; exact Nat.le_refl _
  | 0, k + 1 => Nat.zero_le _
  | n + 1, k + 1 => by
    rw [bn_succ]
    have h1 := bn_le_pow n k
    have h2 := bn_le_pow n (k + 1)
    have h3 : (n + 1) ^ k ≤ (n + 2) ^ k := Nat.pow_le_pow_left (by omega) k
    rw [Nat.pow_succ] at h2 ⊢
    have h4 : (n + 1) ^ k * (n + 1) ≤ (n + 2) ^ k * (n + 1) := Nat.mul_le_mul_right _ h3
    have h5 : (n + 1 + 1) ^ k * (n + 1 + 1) = (n + 2) ^ k * (n + 1) + (n + 2) ^ k := by
      rw [show n + 1 + 1 = (n + 1) + 1 from rfl, Nat.mul_add, Nat.mul_one]
    omega
theorem bn_mono (n k : Nat) : bn n k ≤ bn (n + 1) k := by
  cases k with
  | zero => rw [bn_zero, bn_zero]; exact Nat.le_refl _
  | succ k =>
    rw [bn_succ]
    omega
theorem bn_mono' {n m : Nat} (k : Nat) (h : n ≤ m) : bn n k ≤ bn m k := by
  induction m with
  | zero =>
    have : n = 0 := by omega
    subst this
    exact Nat.le_refl _
  | succ m ih =>
    by_cases z : n = m + 1
    · subst z
      exact Nat.le_refl _
    · exact Nat.le_trans (ih (by omega)) (bn_mono m k)
def fac : Nat → Nat
  | 0 => 1
  | n + 1 => fac n * (n + 1)
theorem fac_pos : ∀ n, 0 < fac n
  | 0 => Nat.one_pos
  | n + 1 => Nat.mul_pos (fac_pos n) (Nat.succ_pos n)
theorem fp_bn : ∀ {n k : Nat}, k ≤ n → Builtin.Math.fallingProduct (n : Int) k = ((bn n k * fac k : Nat) : Int)
  | n, 0, _ => by
    rw [PySem.W.mc_fp_zero, bn_zero]
    rfl
  | n, k + 1, h => by
    rw [PySem.W.mc_fp_succ, fp_bn (by omega), ← Int.ofNat_sub (by omega : k ≤ n), ← Int.natCast_mul]
    congr 1
    have := bn_step (show k ≤ n by omega)
    show bn n k * fac k * (n - k) = bn n (k + 1) * (fac k * (k + 1))
    have e1 : bn n k * fac k * (n - k) = (bn n k * (n - k)) * fac k := by
      rw [Nat.mul_assoc, Nat.mul_comm (fac k), ← Nat.mul_assoc]
    have e2 : bn n (k + 1) * (fac k * (k + 1)) = (bn n (k + 1) * (k + 1)) * fac k := by
      rw [Nat.mul_comm (fac k), ← Nat.mul_assoc]
    rw [e1, e2, this]
theorem fp_div {n m : Nat} (h : m ≤ n) : Builtin.Math.fallingProduct (n : Int) m / Builtin.Math.fallingProduct (m : Int) m = ((bn n m : Nat) : Int) := by
  rw [fp_bn h, fp_bn (Nat.le_refl m), bn_self, Nat.one_mul, ← Int.natCast_ediv]
  congr 1
  exact Nat.mul_div_cancel _ (fac_pos m)
theorem comb_bn {a b : Nat} (h : b ≤ a) (hm : min b (a - b) ≤ 9000) (hz : (bn a b).log2 < bitsLine) : combI (a : Int) (b : Int) = some ((bn a b : Nat) : Int) := by
  unfold combI
  rw [if_pos ⟨by omega, by omega⟩, if_neg (by omega)]
  have e : min (b : Int) ((a : Int) - (b : Int)) = ((min b (a - b) : Nat) : Int) := by omega
  have hle : min b (a - b) ≤ a := by omega
  have hb : bn a (min b (a - b)) = bn a b := by
    by_cases z : b ≤ a - b
    · rw [Nat.min_eq_left z]
    · rw [Nat.min_eq_right (by omega), bn_sym' h]
  have d : Builtin.Math.fallingProduct (a : Int) (min (b : Int) ((a : Int) - (b : Int))).toNat / Builtin.Math.fallingProduct (min (b : Int) ((a : Int) - (b : Int))) (min (b : Int) ((a : Int) - (b : Int))).toNat = ((bn a b : Nat) : Int) := by
    rw [e, Int.toNat_natCast, fp_div hle, hb]
  rw [d, if_pos ⟨by omega, by rw [Int.natAbs_natCast]; exact hz⟩]
  unfold PySem.W.mcComb
  rw [if_neg (by omega), d]
theorem bn_small {a b j : Nat} (h : b ≤ a) (ha : a + 1 ≤ 2 ^ j) (hj : j * min b (a - b) < bitsLine) : (bn a b).log2 < bitsLine := by
  have hb : bn a (min b (a - b)) = bn a b := by
    by_cases z : b ≤ a - b
    · rw [Nat.min_eq_left z]
    · rw [Nat.min_eq_right (by omega), bn_sym' h]
  have h1 : bn a b ≤ 2 ^ (j * min b (a - b)) := by
    rw [← hb, Nat.pow_mul]
    exact Nat.le_trans (bn_le_pow _ _) (Nat.pow_le_pow_left ha _)
  have hp := bn_pos h
  have h2 : (bn a b).log2 ≤ j * min b (a - b) := by
    have z : 2 ^ (bn a b).log2 ≤ bn a b := Nat.log2_self_le (by omega)
    exact (Nat.pow_le_pow_iff_right (by decide)).mp (Nat.le_trans z h1)
  omega
end DL
namespace DL
def rkL : List Nat → Nat → Nat
  | [], _ => 0
  | _ :: _, 0 => 0
  | x :: xs, u + 1 => bn (x + u) (u + 1) + rkL xs u
abbrev rk (u : Nat) (m : List Nat) : Nat := rkL m u
/-- falling, from x to 1 -/
def Fw : Nat → List Nat → Prop
  | _, [] => True
  | x, y :: ys => 1 ≤ y ∧ y ≤ x ∧ Fw y ys
theorem Fw.le : ∀ {x z : Nat} {m : List Nat}, Fw x m → x ≤ z → Fw z m
  | _, _, [], _, _ => True.intro
  | _, _, _ :: _, ⟨a, b, c⟩, h => ⟨a, Nat.le_trans b h, c⟩
theorem rk_lt : ∀ {m : List Nat} {u x : Nat}, Fw x m → m.length ≤ u → rk u m < bn (x + u) u
  | [], u, x, _, _ => by
    show 0 < _
    exact bn_pos (by omega)
  | y :: ys, 0, _, _, h => absurd h (Nat.not_succ_le_zero _)
  | y :: ys, u + 1, x, ⟨h1, h2, h3⟩, h => by
    have z := rk_lt h3 (show ys.length ≤ u from Nat.le_of_succ_le_succ h)
    show bn (y + u) (u + 1) + rk u ys < _
    have e := bn_succ (y + u) u
    have m := bn_mono' (u + 1) (show y + u + 1 ≤ x + (u + 1) by omega)
    omega
/-- what is taken greedily -/
def GsL : List Nat → Nat → Nat → Prop
  | [], _, n => n = 0
  | _ :: _, 0, _ => False
  | x :: xs, u + 1, n => 0 < n ∧ 1 ≤ x ∧ bn (x + u) (u + 1) ≤ n ∧ n < bn (x + u + 1) (u + 1) ∧ GsL xs u (n - bn (x + u) (u + 1))
abbrev Gs (u n : Nat) (m : List Nat) : Prop := GsL m u n
theorem gs_fl : ∀ {m : List Nat} {u n x : Nat}, Gs u n m → n < bn (x + u) u → Fw x m
  | [], _, _, _, _, _ => True.intro
  | y :: ys, 0, _, _, h, _ => h.elim
  | y :: ys, u + 1, n, x, ⟨_, h0, h1, h2, h3⟩, h => by
    refine ⟨h0, ?_, gs_fl h3 ?_⟩
    · by_cases z : y ≤ x
      · exact z
      · have m := bn_mono' (u + 1) (show x + (u + 1) ≤ y + u by omega)
        omega
    · have e := bn_succ (y + u) u
      omega
theorem fl_gs : ∀ {m : List Nat} {u x : Nat}, Fw x m → m.length ≤ u → Gs u (rk u m) m
  | [], _, _, _, _ => rfl
  | y :: ys, 0, _, _, h => absurd h (Nat.not_succ_le_zero _)
  | y :: ys, u + 1, x, ⟨h1, h2, h3⟩, h => by
    have hl : ys.length ≤ u := Nat.le_of_succ_le_succ h
    have z := rk_lt h3 hl
    have e := bn_succ (y + u) u
    have p := bn_pos (show u + 1 ≤ y + u by omega)
    refine ⟨?_, h1, ?_, ?_, ?_⟩
    · show 0 < bn (y + u) (u + 1) + rk u ys
      omega
    · show _ ≤ bn (y + u) (u + 1) + rk u ys
      omega
    · show bn (y + u) (u + 1) + rk u ys < _
      omega
    · show Gs u (bn (y + u) (u + 1) + rk u ys - bn (y + u) (u + 1)) ys
      rw [Nat.add_sub_cancel_left]
      exact fl_gs h3 hl
theorem gs_one : ∀ {m m2 : List Nat} {u n : Nat}, Gs u n m → Gs u n m2 → m = m2
  | [], [], _, _, _, _ => rfl
  | [], y :: ys, 0, _, _, h => h.elim
  | [], y :: ys, u + 1, n, h, ⟨h2, _⟩ => by
    have : n = 0 := h
    omega
  | x :: xs, _, 0, _, h, _ => h.elim
  | x :: xs, [], u + 1, n, ⟨h2, _⟩, h => by
    have : n = 0 := h
    omega
  | x :: xs, y :: ys, u + 1, n, ⟨_, a1, a2, a3, a4⟩, ⟨_, b1, b2, b3, b4⟩ => by
    have e : x = y := by
      rcases Nat.lt_trichotomy x y with z | z | z
      · have := bn_mono' (u + 1) (show x + u + 1 ≤ y + u by omega)
        omega
      · exact z
      · have := bn_mono' (u + 1) (show y + u + 1 ≤ x + u by omega)
        omega
    subst e
    rw [gs_one a4 b4]
def aftL : List Nat → Nat → List Nat
  | [], _ => [1]
  | _ :: _, 0 => []
  | x :: xs, u + 1 => if xs = List.replicate u x then [x + 1] else x :: aftL xs u
abbrev aft (u : Nat) (m : List Nat) : List Nat := aftL m u
theorem aft_eq (u x : Nat) (xs : List Nat) : aft (u + 1) (x :: xs) = if xs = List.replicate u x then [x + 1] else x :: aft u xs := rfl
theorem rk_rep : ∀ u x : Nat, rk u (List.replicate u x) + 1 = bn (x + u) u
  | 0, x => (bn_zero _).symm
  | u + 1, x => by
    rw [List.replicate_succ]
    show bn (x + u) (u + 1) + rk u (List.replicate u x) + 1 = bn (x + u + 1) (u + 1)
    have := rk_rep u x
    have e := bn_succ (x + u) u
    omega
theorem rk_aft : ∀ {m : List Nat} {u : Nat}, m.length ≤ u → 1 ≤ u → rk u (aft u m) = rk u m + 1
  | [], u + 1, _, _ => by
    show bn (1 + u) (u + 1) + 0 = 0 + 1
    rw [Nat.add_comm 1 u, bn_self]
  | [], 0, _, h => absurd h (Nat.not_succ_le_zero _)
  | x :: xs, 0, h, _ => absurd h (Nat.not_succ_le_zero _)
  | x :: xs, u + 1, h, _ => by
    have hl : xs.length ≤ u := Nat.le_of_succ_le_succ h
    rw [aft_eq]
    split
    · rename_i z
      have e := rk_rep (u + 1) x
      rw [List.replicate_succ, ← z] at e
      rw [e]
      show bn (x + 1 + u) (u + 1) + 0 = _
      rw [show x + 1 + u = x + (u + 1) by omega]
      rfl
    · rename_i z
      have hu : 1 ≤ u := by
        cases u with
        | zero =>
          cases xs with
          | nil => exact absurd rfl z
          | cons a b => exact absurd hl (Nat.not_succ_le_zero _)
        | succ u => exact Nat.succ_le_succ (Nat.zero_le _)
      show bn (x + u) (u + 1) + rk u (aft u xs) = bn (x + u) (u + 1) + rk u xs + 1
      rw [rk_aft hl hu]
      omega
theorem aft_len : ∀ {m : List Nat} {u : Nat}, m.length ≤ u → 1 ≤ u → (aft u m).length ≤ u
  | [], u, _, h => h
  | x :: xs, 0, h, _ => Nat.zero_le _
  | x :: xs, u + 1, h, _ => by
    have hl : xs.length ≤ u := Nat.le_of_succ_le_succ h
    rw [aft_eq]
    split
    · exact Nat.succ_le_succ (Nat.zero_le _)
    · rename_i z
      have hu : 1 ≤ u := by
        cases u with
        | zero =>
          cases xs with
          | nil => exact absurd rfl z
          | cons a b => exact absurd hl (Nat.not_succ_le_zero _)
        | succ u => exact Nat.succ_le_succ (Nat.zero_le _)
      exact Nat.succ_le_succ (aft_len hl hu)
theorem aft_fl : ∀ {m : List Nat} {u x : Nat}, Fw x m → m.length ≤ u → 1 ≤ u → m ≠ List.replicate u x → 1 ≤ x → Fw x (aft u m)
  | [], u, x, _, _, _, _, h => ⟨Nat.le_refl _, h, True.intro⟩
  | y :: ys, 0, _, _, h, _, _, _ => absurd h (Nat.not_succ_le_zero _)
  | y :: ys, u + 1, x, ⟨h1, h2, h3⟩, h, _, hn, hx => by
    have hl : ys.length ≤ u := Nat.le_of_succ_le_succ h
    rw [aft_eq]
    split
    · rename_i z
      refine ⟨by omega, ?_, True.intro⟩
      by_cases e : y = x
      · subst e
        exact absurd (by rw [z, List.replicate_succ]) hn
      · omega
    · rename_i z
      have hu : 1 ≤ u := by
        cases u with
        | zero =>
          cases ys with
          | nil => exact absurd rfl z
          | cons a b => exact absurd hl (Nat.not_succ_le_zero _)
        | succ u => exact Nat.succ_le_succ (Nat.zero_le _)
      exact ⟨h1, h2, aft_fl h3 hl hu z h1⟩
theorem aft_fl1 {m : List Nat} {u x : Nat} (f : Fw x m) (h : m.length ≤ u) (hu : 1 ≤ u) (hx : 1 ≤ x) : Fw (x + 1) (aft u m) := by
  refine aft_fl (f.le (Nat.le_succ _)) h hu (fun z => ?_) (by omega)
  subst z
  cases u with
  | zero => exact absurd hu (Nat.not_succ_le_zero _)
  | succ u =>
    rw [List.replicate_succ] at f
    obtain ⟨_, h2, _⟩ := f
    omega
/-- below the full width: one more member; else the last ones are lifted -/
theorem aft_less : ∀ {m : List Nat} {u : Nat}, m.length < u → aft u m = m ++ [1]
  | [], _, _ => rfl
  | x :: xs, 0, h => absurd h (Nat.not_lt_zero _)
  | x :: xs, u + 1, h => by
    have hl : xs.length < u := Nat.lt_of_succ_lt_succ h
    rw [aft_eq]
    rw [if_neg (fun z => by rw [z, List.length_replicate] at hl; omega), aft_less hl]
    rfl
theorem fl_rep : ∀ {m : List Nat} {x l : Nat}, Fw x m → (h : m ≠ []) → m.getLast h = l → x = l → m = List.replicate m.length x
  | [y], x, l, ⟨_, h2, _⟩, _, h, e => by
    have : y = l := h
    subst this e
    rfl
  | y :: z :: zs, x, l, ⟨h1, h2, h3⟩, _, h, e => by
    have h' : (z :: zs).getLast (List.cons_ne_nil _ _) = l := h
    have key : ∀ {m : List Nat} {a : Nat} (n : m ≠ []), Fw a m → m.getLast n ≤ a := by
      intro m
      induction m with
      | nil => exact fun n => absurd rfl n
      | cons b m ih =>
        intro a n f
        obtain ⟨_, f2, f3⟩ := f
        cases m with
        | nil => exact f2
        | cons c m => exact Nat.le_trans (ih (List.cons_ne_nil _ _) f3) f2
    have z1 := key (List.cons_ne_nil z zs) h3
    have ey : y = x := by omega
    subst ey
    rw [fl_rep h3 (List.cons_ne_nil _ _) h' e]
    rw [List.length_cons, List.length_cons, List.length_replicate]
    exact List.replicate_succ.symm
theorem fl_last : ∀ {m : List Nat} {a : Nat} (n : m ≠ []), Fw a m → m.getLast n ≤ a
  | [b], _, _, ⟨_, h, _⟩ => h
  | b :: c :: m, a, _, ⟨_, h, h2⟩ => Nat.le_trans (fl_last (List.cons_ne_nil c m) h2) h
theorem aft_full : ∀ {m : List Nat} {u x : Nat} (h : m ≠ []), Fw x m → m.length = u → aft u m = (m.filter fun a => decide (m.getLast h < a)) ++ [m.getLast h + 1]
  | x :: xs, 0, _, _, _, h => absurd h (Nat.succ_ne_zero _)
  | x :: xs, u + 1, z, hn, ⟨h1, h2, h3⟩, h => by
    have hl : xs.length = u := Nat.succ.inj h
    rw [aft_eq]
    split
    · rename_i e
      have la : (x :: xs).getLast hn = x := by
        subst e
        have q : ∀ (l : List Nat) (hq : l ≠ []), l = List.replicate (u + 1) x → l.getLast hq = x := fun l hq hh => by
          subst hh
          exact List.eq_of_mem_replicate (List.getLast_mem hq)
        exact q _ hn List.replicate_succ.symm
      rw [la]
      have f0 : ((x :: xs).filter fun a => decide (x < a)) = [] := by
        rw [List.filter_eq_nil_iff]
        intro a ha
        have : a = x := by
          rcases List.mem_cons.mp ha with z | z
          · exact z
          · rw [e] at z
            exact List.eq_of_mem_replicate z
        subst this
        simp
      rw [f0]
      rfl
    · rename_i e
      have hx : xs ≠ [] := fun q => e (by subst q; subst hl; rfl)
      have la : (x :: xs).getLast hn = xs.getLast hx := List.getLast_cons hx
      rw [la]
      have lt : xs.getLast hx < x := by
        have q := fl_last hx h3
        by_cases w : x = xs.getLast hx
        · exact absurd (by rw [← hl]; exact fl_rep h3 hx rfl w) e
        · omega
      rw [List.filter_cons, if_pos (decide_eq_true lt), aft_full hx h3 hl]
      rfl
end DL
namespace DL
open PySem PySem.Spec PyProof.Rows L2
abbrev DnN (l : List Nat) : Prop := l.Pairwise (· ≥ ·)
def natL (l : List Int) : List Nat := l.map Int.toNat
theorem natL_iN : ∀ m : List Nat, natL (iN m) = m
  | [] => rfl
  | a :: m => congrArg (a :: ·) (natL_iN m)
theorem iN_natL : ∀ {l : List Int}, (∀ x ∈ l, 0 ≤ x) → iN (natL l) = l
  | [], _ => rfl
  | a :: l, h => by
    show ((a.toNat : Nat) : Int) :: iN (natL l) = _
    rw [iN_natL fun x hx => h x (List.mem_cons_of_mem _ hx), Int.toNat_of_nonneg (h a (List.mem_cons_self ..))]
theorem iN_perm {l m : List Nat} (h : l.Perm m) : (iN l).Perm (iN m) := h.map _
def dnN (m : List Nat) : List Nat := natL (downI (iN m))
theorem iN_dnN (m : List Nat) : iN (dnN m) = downI (iN m) := iN_natL fun x hx => by
  obtain ⟨k, _, rfl⟩ := mem_iN'.mp ((downI_perm _).mem_iff.mp hx)
  omega
theorem dnN_perm (m : List Nat) : (dnN m).Perm m := by
  have h : (natL (downI (iN m))).Perm (natL (iN m)) := (downI_perm (iN m)).map _
  rwa [natL_iN] at h
theorem dn_iN {m : List Nat} : Down (iN m) ↔ DnN m := by
  unfold Down DnN iN
  rw [List.pairwise_map]
  constructor
  · exact fun h => h.imp fun {a b} z => by have z : (b : Int) ≤ (a : Int) := z; show b ≤ a; omega
  · exact fun h => h.imp fun {a b} z => by have z : b ≤ a := z; show (b : Int) ≤ (a : Int); omega
theorem dnN_down (m : List Nat) : DnN (dnN m) := dn_iN.mp (by rw [iN_dnN]; exact down_downI _)
theorem dnN_uniq {l m : List Nat} (h : l.Perm m) (k : DnN l) : dnN m = l := by
  refine iN_inj.mp ?_
  rw [iN_dnN]
  exact (downI_uniq (iN_perm h) (dn_iN.mpr k)).symm
theorem dnN_congr {l m : List Nat} (h : l.Perm m) : dnN l = dnN m := dnN_uniq ((dnN_perm m).trans h.symm) (dnN_down m)
theorem dnN_self {l : List Nat} (k : DnN l) : dnN l = l := dnN_uniq (List.Perm.refl _) k
theorem mem_dnN {m : List Nat} {x : Nat} : x ∈ dnN m ↔ x ∈ m := (dnN_perm m).mem_iff
/-- as many of the greatest as the width -/
def cutN (u : Nat) (m : List Nat) : List Nat := (dnN m).take u
theorem cutN_len (u : Nat) (m : List Nat) : (cutN u m).length ≤ u := by
  unfold cutN
  rw [List.length_take]
  exact Nat.min_le_left _ _
theorem cutN_down (u : Nat) (m : List Nat) : DnN (cutN u m) := (dnN_down m).sublist (List.take_sublist _ _)
theorem cutN_congr {u : Nat} {l m : List Nat} (h : l.Perm m) : cutN u l = cutN u m := by
  unfold cutN
  rw [dnN_congr h]
theorem cutN_self {u : Nat} {l : List Nat} (k : DnN l) (h : l.length ≤ u) : cutN u l = l := by
  unfold cutN
  rw [dnN_self k, List.take_of_length_le h]
theorem cutN_mem {u : Nat} {l : List Nat} {x : Nat} (h : x ∈ cutN u l) : x ∈ l := mem_dnN.mp (List.mem_of_mem_take h)
def insN (x : Nat) : List Nat → List Nat
  | [] => [x]
  | y :: ys => if y ≤ x then x :: y :: ys else y :: insN x ys
theorem insN_perm (x : Nat) : ∀ l, (insN x l).Perm (x :: l)
  | [] => List.Perm.refl _
  | y :: ys => by
    unfold insN
    split
    · exact List.Perm.refl _
    · exact ((insN_perm x ys).cons y).trans (List.Perm.swap x y ys)
theorem insN_down (x : Nat) : ∀ {l}, DnN l → DnN (insN x l)
  | [], _ => by simp [insN, DnN]
  | y :: ys, d => by
    have d2 := List.pairwise_cons.mp d
    unfold insN
    split
    · rename_i h
      refine List.pairwise_cons.mpr ⟨fun z hz => ?_, d⟩
      rcases List.mem_cons.mp hz with e | e
      · subst e
        exact h
      · have q : z ≤ y := d2.1 z e
        show z ≤ x
        omega
    · rename_i h
      refine List.pairwise_cons.mpr ⟨fun z hz => ?_, insN_down x d2.2⟩
      rcases List.mem_cons.mp ((insN_perm x ys).mem_iff.mp hz) with e | e
      · subst e
        show z ≤ y
        omega
      · exact d2.1 z e
theorem dnN_cons (x : Nat) (l : List Nat) : dnN (x :: l) = insN x (dnN l) :=
  dnN_uniq ((insN_perm x _).trans ((dnN_perm l).cons x)) (insN_down x (dnN_down l))
theorem take_ins {e : Nat} : ∀ {u : Nat} {s : List Nat}, DnN s → u ≤ s.length → (∀ x ∈ s.take u, e ≤ x) → (insN e s).take u = s.take u
  | 0, _, _, _, _ => rfl
  | u + 1, [], _, h, _ => absurd h (Nat.not_succ_le_zero _)
  | u + 1, y :: ys, d, h, k => by
    have d2 := List.pairwise_cons.mp d
    have hl : u ≤ ys.length := Nat.le_of_succ_le_succ h
    have ey : e ≤ y := k y (by rw [List.take_succ_cons]; exact List.mem_cons_self ..)
    have kt : ∀ x ∈ ys.take u, e ≤ x := fun x hx => k x (by rw [List.take_succ_cons]; exact List.mem_cons_of_mem _ hx)
    unfold insN
    split
    · rename_i z
      have e2 : e = y := by omega
      subst e2
      have all : ∀ x ∈ ys.take u, x = e := fun x hx => by
        have a := kt x hx
        have b : x ≤ e := d2.1 x (List.mem_of_mem_take hx)
        omega
      have r1 : ys.take u = List.replicate u e := List.eq_replicate_iff.mpr ⟨by rw [List.length_take]; omega, all⟩
      rw [List.take_succ_cons, List.take_succ_cons, r1]
      congr 1
      refine List.eq_replicate_iff.mpr ⟨by rw [List.length_take, List.length_cons]; omega, fun x hx => ?_⟩
      cases u with
      | zero => cases hx
      | succ v =>
        rw [List.take_succ_cons] at hx
        rcases List.mem_cons.mp hx with q | q
        · exact q
        · exact all x (List.mem_of_mem_take (by rw [List.take_take, Nat.min_eq_left (Nat.le_succ v)]; exact q))
    · rw [List.take_succ_cons, List.take_succ_cons, take_ins d2.2 hl kt]
theorem first_ge {e : Nat} : ∀ {u : Nat} {s : List Nat}, DnN s → u ≤ (s.filter fun x => decide (e ≤ x)).length → ∀ x ∈ s.take u, e ≤ x
  | 0, _, _, _, x, hx => by cases hx
  | u + 1, [], _, h, _, _ => absurd h (Nat.not_succ_le_zero _)
  | u + 1, y :: ys, d, h, x, hx => by
    have d2 := List.pairwise_cons.mp d
    by_cases z : e ≤ y
    · rw [List.filter_cons, if_pos (by simpa using z), List.length_cons] at h
      rw [List.take_succ_cons] at hx
      rcases List.mem_cons.mp hx with q | q
      · rw [q]; exact z
      · exact first_ge d2.2 (Nat.le_of_succ_le_succ h) x q
    · have none : ((y :: ys).filter fun x => decide (e ≤ x)) = [] := List.filter_eq_nil_iff.mpr fun a ha => by
        rcases List.mem_cons.mp ha with q | q
        · rw [q]; simpa using z
        · have : a ≤ y := d2.1 a q
          simp
          omega
      rw [none] at h
      exact absurd h (Nat.not_succ_le_zero _)
theorem cut_more {u : Nat} {t : List Nat} : ∀ {y : List Nat}, (∀ e ∈ y, u ≤ (t.filter fun x => decide (e ≤ x)).length) → cutN u (y ++ t) = cutN u t
  | [], _ => rfl
  | e :: y, h => by
    have ih := cut_more (t := t) (y := y) fun a ha => h a (List.mem_cons_of_mem _ ha)
    have he := h e (List.mem_cons_self ..)
    rw [← ih]
    unfold cutN
    rw [List.cons_append, dnN_cons]
    have many : u ≤ ((dnN (y ++ t)).filter fun x => decide (e ≤ x)).length := by
      have p : ((dnN (y ++ t)).filter fun x => decide (e ≤ x)).Perm ((y ++ t).filter fun x => decide (e ≤ x)) := (dnN_perm _).filter _
      rw [p.length_eq, List.filter_append, List.length_append]
      omega
    exact take_ins (dnN_down _) (Nat.le_trans many (List.length_filter_le _ _)) (first_ge (dnN_down _) many)
theorem cut_absorb (u : Nat) (a b : List Nat) : cutN u (cutN u a ++ b) = cutN u (a ++ b) := by
  have p : (a ++ b).Perm ((dnN a).drop u ++ ((dnN a).take u ++ b)) := by
    have q : (dnN a ++ b).Perm (a ++ b) := (dnN_perm a).append_right b
    refine q.symm.trans ?_
    have e : dnN a ++ b = (dnN a).take u ++ ((dnN a).drop u ++ b) := by rw [← List.append_assoc, List.take_append_drop]
    rw [e]
    exact List.perm_append_comm_assoc _ _ _
  rw [cutN_congr p]
  refine (cut_more fun e he => ?_).symm
  have hl : u ≤ (dnN a).length := by
    by_cases z : u ≤ (dnN a).length
    · exact z
    · rw [List.drop_of_length_le (by omega)] at he
      cases he
  have all : ∀ x ∈ (dnN a).take u, e ≤ x := fun x hx => by
    have d := dnN_down a
    rw [← List.take_append_drop u (dnN a)] at d
    exact (List.pairwise_append.mp d).2.2 x hx e he
  show u ≤ (((dnN a).take u ++ b).filter fun x => decide (e ≤ x)).length
  rw [List.filter_append, List.length_append, List.filter_eq_self.mpr (fun x hx => by simpa using all x hx), List.length_take]
  omega
theorem fw_of : ∀ {x : Nat} {m : List Nat}, DnN m → (∀ a ∈ m, 1 ≤ a ∧ a ≤ x) → Fw x m
  | _, [], _, _ => True.intro
  | _, y :: ys, d, h => by
    have d2 := List.pairwise_cons.mp d
    obtain ⟨a, b⟩ := h y (List.mem_cons_self ..)
    exact ⟨a, b, fw_of d2.2 fun z hz => ⟨(h z (List.mem_cons_of_mem _ hz)).1, d2.1 z hz⟩⟩
theorem fw_mem : ∀ {m : List Nat} {x : Nat}, Fw x m → ∀ a ∈ m, 1 ≤ a ∧ a ≤ x
  | [], _, _, a, h => by cases h
  | y :: ys, x, ⟨h1, h2, h3⟩, a, h => by
    rcases List.mem_cons.mp h with z | z
    · subst z
      exact ⟨h1, h2⟩
    · have := fw_mem h3 a z
      exact ⟨this.1, by omega⟩
theorem fw_down : ∀ {m : List Nat} {x : Nat}, Fw x m → DnN m
  | [], _, _ => List.Pairwise.nil
  | y :: ys, x, ⟨_, _, h3⟩ => List.pairwise_cons.mpr ⟨fun a ha => (fw_mem h3 a ha).2, fw_down h3⟩
theorem fw_cut {x u : Nat} {m : List Nat} (h : ∀ a ∈ m, 1 ≤ a ∧ a ≤ x) : Fw x (cutN u m) := fw_of (cutN_down u m) fun a ha => h a (cutN_mem ha)
/-- a row below a capacity -/
theorem fw_iff {m : List Nat} {u x z : Nat} (f : Fw z m) (h : m.length ≤ u) : rk u m < bn (x + u) u ↔ Fw x m := ⟨fun q => gs_fl (fl_gs f h) q, fun q => rk_lt q h⟩
def rowN (u : Nat) : Nat → List Nat
  | 0 => []
  | l + 1 => aft u (rowN u l)
theorem rowN_ok {u : Nat} (hu : 1 ≤ u) : ∀ l, rk u (rowN u l) = l ∧ (rowN u l).length ≤ u ∧ Fw (l + 1) (rowN u l)
  | 0 => ⟨rfl, Nat.zero_le _, True.intro⟩
  | l + 1 => by
    obtain ⟨h1, h2, h3⟩ := rowN_ok hu l
    refine ⟨?_, aft_len h2 hu, aft_fl1 h3 h2 hu (by omega)⟩
    show rk u (aft u (rowN u l)) = l + 1
    rw [rk_aft h2 hu, h1]
theorem rowN_of {m : List Nat} {u x : Nat} (hu : 1 ≤ u) (f : Fw x m) (h : m.length ≤ u) : rowN u (rk u m) = m := by
  obtain ⟨h1, h2, h3⟩ := rowN_ok hu (rk u m)
  have g := fl_gs h3 h2
  rw [h1] at g
  exact gs_one g (fl_gs f h)
theorem rowN_down {u : Nat} (hu : 1 ≤ u) (l : Nat) : DnN (rowN u l) := fw_down (rowN_ok hu l).2.2
theorem bn_ge : ∀ (f x : Nat), 1 ≤ f → x ≤ bn (x + f - 1) f
  | 0, _, h => absurd h (Nat.not_succ_le_zero _)
  | 1, x, _ => by
    rw [Nat.add_sub_cancel, bn_one]
    exact Nat.le_refl _
  | f + 2, x, _ => by
    have z := bn_ge (f + 1) x (by omega)
    have e : x + (f + 2) - 1 = (x + (f + 1) - 1) + 1 := by omega
    rw [e, bn_succ]
    omega
/-- its members are at most its number -/
theorem rowN_fw {u : Nat} (hu : 1 ≤ u) (l : Nat) : Fw l (rowN u l) := by
  obtain ⟨h1, h2, h3⟩ := rowN_ok hu l
  refine (fw_iff h3 h2).mp ?_
  rw [h1]
  have := bn_ge u (l + 1) hu
  rw [show l + 1 + u - 1 = l + u by omega] at this
  omega
theorem bn_le_two : ∀ n k : Nat, bn n k ≤ 2 ^ n
  | 0, 0 => by decide
  | 0, k + 1 => by rw [bn_gt (by omega)]; exact Nat.zero_le _
  | n + 1, 0 => by rw [bn_zero]; exact Nat.one_le_two_pow
  | n + 1, k + 1 => by
    rw [bn_succ, Nat.pow_succ]
    have := bn_le_two n k
    have := bn_le_two n (k + 1)
    omega
theorem le_sumN {n : Nat} : ∀ {ns : List Nat}, n ∈ ns → n ≤ ns.sum
  | [], h => by cases h
  | c :: ns, h => by
    rw [List.sum_cons]
    rcases List.mem_cons.mp h with z | z
    · omega
    · have := le_sumN z
      omega
def jn (u : Nat) (ns : List Nat) : Nat := rk u (cutN u (ns.flatMap (rowN u)))
section
variable {u : Nat} (hu : 1 ≤ u)
theorem jn_nil : jn u [] = 0 := by
  unfold jn
  rw [List.flatMap_nil, cutN_self List.Pairwise.nil (Nat.zero_le _)]
  rfl
theorem jn_perm {ns ms : List Nat} (h : ns.Perm ms) : jn u ns = jn u ms := by
  unfold jn
  rw [cutN_congr (h.flatMap_right _)]
include hu
theorem flat_pos {ns : List Nat} : ∀ a ∈ ns.flatMap (rowN u), 1 ≤ a ∧ a ≤ ns.sum := fun a ha => by
  obtain ⟨n, hn, ha⟩ := List.mem_flatMap.mp ha
  obtain ⟨b1, b2⟩ := fw_mem (rowN_fw hu n) a ha
  have := le_sumN hn
  exact ⟨b1, by omega⟩
theorem jn_fw (ns : List Nat) : Fw ns.sum (cutN u (ns.flatMap (rowN u))) := fw_cut (flat_pos hu)
theorem rowN_jn (ns : List Nat) : rowN u (jn u ns) = cutN u (ns.flatMap (rowN u)) := rowN_of hu (jn_fw hu ns) (cutN_len _ _)
theorem jn_one (n : Nat) : jn u [n] = n := by
  obtain ⟨h1, h2, _⟩ := rowN_ok hu n
  unfold jn
  rw [List.flatMap_cons, List.flatMap_nil, List.append_nil, cutN_self (rowN_down hu n) h2, h1]
theorem jn_app (ns ms : List Nat) : jn u (jn u ns :: ms) = jn u (ns ++ ms) := by
  unfold jn
  rw [List.flatMap_cons, List.flatMap_append]
  have e := rowN_jn hu ns
  unfold jn at e
  rw [e, cut_absorb]
theorem jn_zero (ns : List Nat) : jn u (0 :: ns) = jn u ns := by
  unfold jn
  rw [List.flatMap_cons]
  rfl
end
end DL
namespace DL
open PySem PySem.Spec PyProof.Rows L2
theorem cut_top {u x : Nat} {m : List Nat} (hu : 1 ≤ u) (h : ∀ a ∈ cutN u m, a ≤ x) : ∀ a ∈ m, a ≤ x := by
  intro a ha
  have q := mem_dnN.mpr ha
  have d := dnN_down m
  unfold cutN at h
  cases hd : dnN m with
  | nil => rw [hd] at q; cases q
  | cons y ys =>
    rw [hd] at q h d
    have hy : y ≤ x := h y (by
      cases u with
      | zero => omega
      | succ v => rw [List.take_succ_cons]; exact List.mem_cons_self ..)
    rcases List.mem_cons.mp q with z | z
    · omega
    · have : a ≤ y := (List.pairwise_cons.mp d).1 a z
      omega
theorem row_lt {u x n : Nat} (hu : 1 ≤ u) : n < bn (x + u) u ↔ ∀ a ∈ rowN u n, a ≤ x := by
  obtain ⟨h1, h2, h3⟩ := rowN_ok hu n
  have f := fw_iff (x := x) h3 h2
  rw [h1] at f
  rw [f]
  constructor
  · exact fun q a ha => (fw_mem q a ha).2
  · exact fun q => fw_of (fw_down h3) fun a ha => ⟨(fw_mem h3 a ha).1, q a ha⟩
theorem jn_lt {u x : Nat} (hu : 1 ≤ u) (ns : List Nat) : jn u ns < bn (x + u) u ↔ ∀ k ∈ ns, k < bn (x + u) u := by
  rw [row_lt hu, rowN_jn hu]
  constructor
  · intro h k hk
    rw [row_lt hu]
    exact fun a ha => cut_top hu h a (List.mem_flatMap.mpr ⟨k, hk, ha⟩)
  · intro h a ha
    obtain ⟨k, hk, ha⟩ := List.mem_flatMap.mp (cutN_mem ha)
    exact (row_lt hu).mp (h k hk) a ha
end DL
namespace DL
open PySem PySem.Spec PyProof.Rows L2
theorem log_le {n j : Nat} (h : n ≤ 2 ^ j) : n.log2 ≤ j := by
  by_cases z : n = 0
  · subst z
    rw [Nat.log2_zero]
    exact Nat.zero_le _
  · exact (Nat.pow_le_pow_iff_right (by decide)).mp (Nat.le_trans (Nat.log2_self_le z) h)
theorem mulO_w {i j : Int} (h : i.natAbs.log2 + j.natAbs.log2 < 1000000) : mulO i j = some (i * j) := by
  unfold mulO mulWC
  rw [if_pos (by rw [decide_eq_true h, Bool.or_true])]
theorem divO_ok {i j : Int} (h : 0 < j) (h2 : j < 1073741824) : divO i j = some (i / j) := if_pos ⟨h, log_few h h2⟩
theorem e_comb {a b j : Nat} (h : b ≤ a) (ha : a + 1 ≤ 2 ^ j) (hb : b ≤ 9000) (hj : j * b < 134217728) : combI (a : Int) (b : Int) = some ((bn a b : Nat) : Int) := by
  refine comb_bn h (by omega) (bn_small h ha ?_)
  have : j * min b (a - b) ≤ j * b := Nat.mul_le_mul_left j (by omega)
  have e : bitsLine = 134217728 := rfl
  omega
theorem fw_all : ∀ {m : List Nat} {x : Nat}, Fw x m → ∀ a ∈ m, 1 ≤ a ∧ a ≤ x
  | [], _, _, a, h => by cases h
  | y :: ys, x, ⟨h1, h2, h3⟩, a, h => by
    rcases List.mem_cons.mp h with z | z
    · subst z
      exact ⟨h1, h2⟩
    · have := fw_all h3 a z
      exact ⟨this.1, by omega⟩
theorem fw_next : ∀ {m : List Nat} {x k : Nat}, Fw x m → (h : k + 1 < m.length) → m[k + 1] ≤ m[k]
  | y :: z :: ys, x, 0, ⟨_, _, _, h, _⟩, _ => h
  | y :: ys, x, k + 1, ⟨_, _, h3⟩, h => fw_next (m := ys) h3 (Nat.lt_of_succ_lt_succ h)
theorem iN_at {m : List Nat} {k : Nat} (h : k < m.length) : atI (iN m) (k : Int) = some ((m[k] : Nat) : Int) := by
  rw [atI_nn]
  unfold iN
  rw [List.getElem?_map, List.getElem?_eq_getElem h]
  rfl
theorem gv_at {m : List Nat} {k : Nat} (h : k < m.length) : gv m (k + 1) = m[k] := by
  have z := gv_get h
  rw [List.getElem?_eq_getElem h] at z
  exact (Option.some.inj z).symm
theorem rk_drop {m : List Nat} {u k : Nat} (h : k < m.length) (hu : k < u) : rk (u - k) (m.drop k) = bn (m[k] + (u - k - 1)) (u - k) + rk (u - (k + 1)) (m.drop (k + 1)) := by
  rw [List.drop_eq_getElem_cons h, show u - k = (u - (k + 1)) + 1 by omega]
  rfl
theorem fw_size {m : List Nat} {x k : Nat} (f : Fw x m) (h : k < m.length) : 1 ≤ m[k] ∧ m[k] ≤ x := fw_all f _ (List.getElem_mem h)
theorem iN_app (l m : List Nat) : iN l ++ iN m = iN (l ++ m) := by
  unfold iN
  rw [List.map_append]
/-- a while loop by an invariant and a measure -/
theorem whS_J {σ : Type} (J : σ → Prop) (μ : σ → Nat) {c : σ → Option Bool} {body : σ → Option σ} (h : ∀ s, J s → ∃ b, c s = some b ∧ (b = true → ∃ s', body s = some s' ∧ J s' ∧ μ s' < μ s)) : ∀ (N : Nat) (s : σ), J s → μ s < N → ∃ s', whS c body N s = some s' ∧ J s' ∧ c s' = some false
  | 0, s, _, hm => absurd hm (Nat.not_lt_zero _)
  | N + 1, s, hJ, hm => by
    obtain ⟨b, hb, hs⟩ := h s hJ
    cases b with
    | false => exact ⟨s, whF hb, hJ, hb⟩
    | true =>
      obtain ⟨s1, h1, h2, h3⟩ := hs rfl
      obtain ⟨s', q1, q2, q3⟩ := whS_J J μ h N s1 h2 (by omega)
      exact ⟨s', whT hb h1 q1, q2, q3⟩
theorem bn_big : ∀ (f x : Nat), 1 ≤ f → x ≤ bn (x + f - 1) f
  | 0, _, h => absurd h (Nat.not_succ_le_zero _)
  | 1, x, _ => by
    rw [Nat.add_sub_cancel, bn_one]
    exact Nat.le_refl _
  | f + 2, x, _ => by
    have z := bn_big (f + 1) x (by omega)
    have e : x + (f + 2) - 1 = (x + (f + 1) - 1) + 1 := by omega
    rw [e, bn_succ]
    omega
theorem cut_take {α : Type} (l : List α) (v : Nat) : DL.cutD l none (some (v : Int)) = l.take v := by
  unfold DL.cutD
  rw [HT.sIx_nat, HT.sIx_none, List.drop_zero, Nat.sub_zero]
  by_cases h : v ≤ l.length
  · rw [Nat.min_eq_left h]
  · rw [Nat.min_eq_right (by omega), List.take_of_length_le (by omega), List.take_of_length_le (by omega)]
theorem fw_sum {d : List Nat} (h : DnN d) (pos : ∀ a ∈ d, 1 ≤ a) : Fw d.sum d := fw_of h fun a ha => ⟨pos a ha, le_sumN ha⟩
end DL
namespace DL
open PySem PySem.Spec PyProof.Rows L2
theorem ix_tup {l : List PyData} {k : Nat} (h : k < l.length) : vD (p_ix (.tuple l) (.int (k : Int))) = some l[k] := by
  have q := o_ixT (f := idD) (l := l) (i := (k : Int)) (a := l[k]) (by rw [atI_nn]; exact List.getElem?_eq_getElem h)
  have e : tp idD l = .tuple l := congrArg PyData.tuple (List.map_id' l)
  rw [e] at q
  rw [q]
  rfl
end DL
namespace K19
open PySem PySem.Spec PyProof.Rows L2 DL
theorem q_is_number (i : Int) : f_is_number i = some (decide (0 ≤ i)) := rfl
theorem q_is_natural (i : Int) : f_is_natural i = some (decide (1 ≤ i)) := rfl
theorem q_nat {n : Nat} (h : 1 ≤ n) : f_is_natural (n : Int) = some true := by rw [q_is_natural, decide_eq_true (by omega)]
theorem q_num (n : Nat) : f_is_number (n : Int) = some true := by rw [q_is_number, decide_eq_true (by omega)]
theorem e_is_row {m : List Nat} {x : Nat} (f : Fw x m) (hl : m.length ≤ 1000000) : f_is_row (iN m) = some true := by
  unfold f_is_row
  refine iF rfl (bs (lcC_map (g' := fun _ => true) (by rw [len_iN]; omega) fun a ha => ?_) (iF ?_ ?_))
  · obtain ⟨k, hk, rfl⟩ := mem_iN'.mp ha
    refine bs (q_is_natural _) ?_
    rw [decide_eq_true (by have := (fw_all f k hk).1; omega)]
  · rw [show (List.map (fun _ => true) (iN m)).all id = true from by simp]
    rfl
  · have r : rng1O (((iN m).length : Int) - 1) = some ((List.range (m.length - 1)).map fun (k : Nat) => (k : Int)) := by
      rw [len_iN]
      by_cases z : m.length = 0
      · rw [z]
        rfl
      · rw [show ((m.length : Nat) : Int) - 1 = ((m.length - 1 : Nat) : Int) from by omega]
        exact rng1O_n (by omega)
    refine bs r (bs (lcC_rg (g' := fun _ => true) (by omega) fun k hk => ?_) ?_)
    · refine bs (iN_at (show k < m.length by omega)) (bs (a := ((m[k + 1]'(by omega) : Nat) : Int)) ?_ ?_)
      · have := iN_at (m := m) (show k + 1 < m.length by omega)
        rwa [Int.natCast_succ] at this
      · rw [decide_eq_true (by have := fw_next f (show k + 1 < m.length by omega); omega)]
    · simp
theorem e_check {m : List Nat} {x u : Nat} (f : Fw x m) (hl : m.length ≤ u) (hu : 1 ≤ u) (hs : u ≤ 1000000) : f_check_row (u : Int) (iN m) = some () := by
  unfold f_check_row
  refine bs (q_is_natural _) (iF (by rw [decide_eq_true (by omega)]; rfl) (bs (e_is_row f (by omega)) (iF ?_ rfl)))
  rw [len_iN, decide_eq_false (by omega)]
  rfl
theorem e_number_of {m : List Nat} {x u j : Nat} (f : Fw x m) (hl : m.length ≤ u) (hu : 1 ≤ u) (hs : u ≤ 9000) (hx : x + u ≤ 2 ^ j) (hj : j * u < 134217728) : f_number_of (u : Int) (iN m) = some ((rk u m : Nat) : Int) := by
  unfold f_number_of
  refine bs (e_check f hl hu (by omega)) (bs rfl ?_)
  rw [enum_rg, len_iN]
  have step : ∀ k, k < m.length → ∀ s : Int, s + ((rk (u - k) (m.drop k) : Nat) : Int) = ((rk u m : Nat) : Int) → ∃ s', f_number_of_L1 (u : Int) (iN m) ((k : Int), gv (iN m) (k + 1)) s = some s' ∧ s' + ((rk (u - (k + 1)) (m.drop (k + 1)) : Nat) : Int) = ((rk u m : Nat) : Int) := by
    intro k hk s h
    obtain ⟨s1, s2⟩ := fw_size f hk
    refine ⟨s + ((bn (m[k] + (u - k - 1)) (u - k) : Nat) : Int), ?_, ?_⟩
    · unfold f_number_of_L1
      rw [gv_iN (by omega) (by omega), gv_at hk]
      dsimp only
      rw [show ((m[k] : Nat) : Int) + (u : Int) - (k : Int) - 1 = ((m[k] + (u - k - 1) : Nat) : Int) by omega, show (u : Int) - (k : Int) = ((u - k : Nat) : Int) by omega]
      refine bs (e_comb (j := j) (by omega) (by omega) (by omega) ?_) rfl
      have : j * (u - k) ≤ j * u := Nat.mul_le_mul_left j (by omega)
      omega
    · rw [rk_drop hk (by omega)] at h
      omega
  obtain ⟨s', h1, h2⟩ := forS_J (n := m.length) (f := fun (k : Nat) => ((k : Int), gv (iN m) (k + 1))) (fun k (s : Int) => s + ((rk (u - k) (m.drop k) : Nat) : Int) = ((rk u m : Nat) : Int)) (body := fun x_1 number_ => f_number_of_L1 (u : Int) (iN m) x_1 number_) (s := 0) (by rw [Nat.sub_zero, List.drop_zero]; omega) step
  refine bs h1 ?_
  rw [List.drop_length] at h2
  have h3 : s' + ((0 : Nat) : Int) = ((rk u m : Nat) : Int) := h2
  congr 1
  omega
/-- the greatest member that the rest lets -/
theorem e_greatest {f r : Nat} (hf : 1 ≤ f) (hf2 : f ≤ 1000) (hr : 1 ≤ r) (hb : r < 2 ^ 200) : ∃ x, f_greatest_member (f : Int) (r : Int) = some ((x : Nat) : Int) ∧ 1 ≤ x ∧ bn (x + f - 1) f ≤ r ∧ r < bn (x + f) f := by
  have comb : ∀ x : Nat, 1 ≤ x → x ≤ 2 ^ 202 → combI (((x : Nat) : Int) + (f : Int) - 1) (f : Int) = some ((bn (x + f - 1) f : Nat) : Int) := fun x h1 h2 => by
    rw [show ((x : Nat) : Int) + (f : Int) - 1 = ((x + f - 1 : Nat) : Int) by omega]
    have p : (2 : Nat) ^ 203 = 2 ^ 202 + 2 ^ 202 := by rw [← Nat.two_mul, ← Nat.pow_succ']
    have p2 : 1000 ≤ (2 : Nat) ^ 202 := by decide
    exact e_comb (j := 203) (by omega) (by omega) (by omega) (by omega)
  have p0 : (2 : Nat) ^ 201 = 2 ^ 200 + 2 ^ 200 := by rw [← Nat.two_mul, ← Nat.pow_succ']
  have p1 : (2 : Nat) ^ 202 = 2 ^ 201 + 2 ^ 201 := by rw [← Nat.two_mul, ← Nat.pow_succ']
  -- doubling
  obtain ⟨hi, w1, ⟨i, rfl, g1, g2⟩, w2⟩ := whS_J (σ := Int) (fun s => ∃ i : Nat, s = ((2 ^ (i + 1) : Nat) : Int) ∧ bn (2 ^ i + f - 1) f ≤ r ∧ i ≤ 200) (fun s => 250 - s.natAbs.log2)
    (c := fun high_ => f_greatest_member_L1c (f : Int) (r : Int) high_) (body := fun high_ => f_greatest_member_L1 (f : Int) (r : Int) high_) (by
      rintro s ⟨i, rfl, g1, g2⟩
      have pi : 2 ^ (i + 1) ≤ 2 ^ 201 := Nat.pow_le_pow_right (by decide) (by omega)
      have pp : 1 ≤ 2 ^ (i + 1) := Nat.one_le_two_pow
      refine ⟨_, bs (comb _ pp (by omega)) rfl, fun hb1 => ⟨((2 ^ (i + 2) : Nat) : Int), ?_, ⟨i + 1, rfl, ?_, ?_⟩, ?_⟩⟩
      · unfold f_greatest_member_L1
        show some (((2 ^ (i + 1) : Nat) : Int) * 2) = _
        rfl
      · have := of_decide_eq_true hb1
        omega
      · have z := of_decide_eq_true hb1
        have b := bn_big f (2 ^ (i + 1)) hf
        have lt : 2 ^ (i + 1) < 2 ^ 200 := by omega
        have := (Nat.pow_lt_pow_iff_right (by decide : 1 < 2)).mp lt
        omega
      · rw [Int.natAbs_natCast, Int.natAbs_natCast, Nat.log2_two_pow, Nat.log2_two_pow]
        omega) 300 (2 : Int) ⟨0, rfl, by rw [Nat.pow_zero, show 1 + f - 1 = f by omega, bn_self]; exact hr, by omega⟩ (by omega)
  have pi : 2 ^ (i + 1) ≤ 2 ^ 201 := Nat.pow_le_pow_right (by decide) (by omega)
  have pp : 1 ≤ 2 ^ i := Nat.one_le_two_pow
  have pq : 2 ^ (i + 1) = 2 ^ i + 2 ^ i := by rw [← Nat.two_mul, ← Nat.pow_succ']
  have top : r < bn (2 ^ (i + 1) + f - 1) f := by
    have z : f_greatest_member_L1c (f : Int) (r : Int) ((2 ^ (i + 1) : Nat) : Int) = some (decide (((bn (2 ^ (i + 1) + f - 1) f : Nat) : Int) ≤ (r : Int))) := bs (comb _ (by omega) (by omega)) rfl
    have w3 : f_greatest_member_L1c (f : Int) (r : Int) ((2 ^ (i + 1) : Nat) : Int) = some false := w2
    rw [z] at w3
    have := of_decide_eq_false (Option.some.inj w3)
    omega
  -- halving
  obtain ⟨st, v1, ⟨a, b, rfl, k1, k2, k3, k4, k5⟩, v2⟩ := whS_J (σ := Int × Int) (fun s => ∃ a b : Nat, s = ((a : Int), (b : Int)) ∧ 1 ≤ b ∧ b < a ∧ a ≤ 2 ^ 201 ∧ bn (b + f - 1) f ≤ r ∧ r < bn (a + f - 1) f) (fun s => (s.1 - s.2 - 1).toNat.log2 + (if s.1 - s.2 - 1 = 0 then 0 else 1))
    (c := fun s_ => f_greatest_member_L2c (f : Int) (r : Int) s_.1 s_.2) (body := fun s_ => f_greatest_member_L2 (f : Int) (r : Int) s_.1 s_.2) (by
      rintro s ⟨a, b, rfl, k1, k2, k3, k4, k5⟩
      refine ⟨_, rfl, fun hb1 => ?_⟩
      have hab : (1 : Int) < (a : Int) - (b : Int) := of_decide_eq_true hb1
      have em : ((b : Int) + (a : Int)) / 2 = (((b + a) / 2 : Nat) : Int) := by omega
      have m1 : b < (b + a) / 2 := by omega
      have m2 : (b + a) / 2 < a := by omega
      have lg : ∀ {p q : Nat}, 1 ≤ q → q < a - b - 1 + 1 → 2 * q ≤ a - b + 1 → q - 1 + 0 = p → p.log2 + (if ((p : Nat) : Int) = 0 then 0 else 1) < (a - b - 1).log2 + 1 := by
        intro p q h1 h2 h3 h4
        by_cases z : p = 0
        · subst z
          rw [if_pos (show ((0 : Nat) : Int) = 0 from rfl), Nat.log2_zero]
          omega
        · rw [if_neg (by omega)]
          have h5 : 2 * p ≤ a - b - 1 := by omega
          have h6 : (2 * p).log2 = p.log2 + 1 := Nat.log2_two_mul z
          have h7 : 2 ^ (p.log2 + 1) ≤ a - b - 1 := by
            rw [← h6]
            exact Nat.le_trans (Nat.log2_self_le (by omega)) h5
          have h8 : p.log2 + 1 ≤ (a - b - 1).log2 := (Nat.le_log2 (by omega)).mpr h7
          omega
      have big : ∀ {p : Nat}, (((a : Int) - (b : Int) - 1).toNat.log2 + (if (a : Int) - (b : Int) - 1 = 0 then 0 else 1)) = (a - b - 1).log2 + 1 := by
        intro p
        rw [if_neg (by omega), show ((a : Int) - (b : Int) - 1).toNat = a - b - 1 by omega]
      by_cases t : bn ((b + a) / 2 + f - 1) f ≤ r
      · refine ⟨((a : Int), (((b + a) / 2 : Nat) : Int)), ?_, ⟨a, (b + a) / 2, rfl, by omega, m2, k3, t, k5⟩, ?_⟩
        · unfold f_greatest_member_L2
          rw [em]
          refine bs rfl (bs (comb _ (by omega) (by omega)) (iT (decide_eq_true (by omega)) rfl))
        · dsimp only
          rw [big (p := 0), show (a : Int) - (((b + a) / 2 : Nat) : Int) - 1 = ((a - (b + a) / 2 - 1 : Nat) : Int) by omega, Int.toNat_natCast]
          exact lg (q := a - (b + a) / 2) (by omega) (by omega) (by omega) (by omega)
      · refine ⟨((((b + a) / 2 : Nat) : Int), (b : Int)), ?_, ⟨(b + a) / 2, b, rfl, k1, m1, by omega, k4, by omega⟩, ?_⟩
        · unfold f_greatest_member_L2
          rw [em]
          refine bs rfl (bs (comb _ (by omega) (by omega)) (iF (decide_eq_false (by omega)) rfl))
        · dsimp only
          rw [big (p := 0), show (((b + a) / 2 : Nat) : Int) - (b : Int) - 1 = (((b + a) / 2 - b - 1 : Nat) : Int) by omega, Int.toNat_natCast]
          exact lg (q := (b + a) / 2 - b) (by omega) (by omega) (by omega) (by omega)) 300 (((2 ^ (i + 1) : Nat) : Int), ((2 ^ i : Nat) : Int)) ⟨2 ^ (i + 1), 2 ^ i, rfl, pp, by omega, pi, g1, top⟩ (by
      dsimp only
      have h1 : (((2 ^ (i + 1) : Nat) : Int) - ((2 ^ i : Nat) : Int) - 1).toNat ≤ 2 ^ 200 := by omega
      have h2 := log_le h1
      have h3 : (if ((2 ^ (i + 1) : Nat) : Int) - ((2 ^ i : Nat) : Int) - 1 = 0 then 0 else 1) ≤ 1 := by split <;> omega
      omega)
  have e1 : (a : Int) - (b : Int) ≤ 1 := by
    have w : some (decide ((1 : Int) < (a : Int) - (b : Int))) = some false := v2
    have := of_decide_eq_false (Option.some.inj w)
    omega
  have ea : a = b + 1 := by omega
  subst ea
  refine ⟨b, ?_, k1, k4, by rw [show b + f = b + 1 + f - 1 by omega]; exact k5⟩
  unfold f_greatest_member
  refine bs rfl (bs w1 (bs rfl (bs (a := (((b + 1 : Nat) : Int), (b : Int))) ?_ rfl)))
  rw [show ((2 ^ (i + 1) : Nat) : Int) / 2 = ((2 ^ i : Nat) : Int) by omega]
  exact v1
/-- the row of a number -/
theorem e_row_of {u n : Nat} (hu : 1 ≤ u) (hu2 : u ≤ 1000) (hn : n < 2 ^ 200) : ∃ m, f_row_of (u : Int) (n : Int) = some (iN m) ∧ Gs u n m := by
  obtain ⟨st, w1, ⟨p, r, f, rfl, k1, k2, k3, k4⟩, w2⟩ := whS_J (σ := List Int × Int × Int) (fun s => ∃ (p : List Nat) (r f : Nat), s = (iN p, (r : Int), (f : Int)) ∧ (∀ m, Gs f r m → Gs u n (p ++ m)) ∧ (0 < r → 1 ≤ f) ∧ p.length + f = u ∧ r ≤ n) (fun s => s.2.1.toNat)
    (c := fun s_ => f_row_of_L1c s_.1 s_.2.1 s_.2.2) (body := fun s_ => f_row_of_L1 s_.1 s_.2.1 s_.2.2) (by
      rintro s ⟨p, r, f, rfl, k1, k2, k3, k4⟩
      refine ⟨_, rfl, fun hb => ?_⟩
      have hr : (0 : Int) < (r : Int) := of_decide_eq_true hb
      have hf := k2 (by omega)
      obtain ⟨x, x1, x2, x3, x4⟩ := e_greatest (f := f) (r := r) hf (by omega) (by omega) (by omega)
      have xr : x ≤ r := Nat.le_trans (bn_big f x hf) x3
      have pz : (2 : Nat) ^ 201 = 2 ^ 200 + 2 ^ 200 := by rw [← Nat.two_mul, ← Nat.pow_succ']
      have p2 : 1000 ≤ (2 : Nat) ^ 200 := by decide
      have ef : f = (f - 1) + 1 := by omega
      have cb : combI (((x : Nat) : Int) + (f : Int) - 1) (f : Int) = some ((bn (x + f - 1) f : Nat) : Int) := by
        rw [show ((x : Nat) : Int) + (f : Int) - 1 = ((x + f - 1 : Nat) : Int) by omega]
        exact e_comb (j := 201) (by omega) (by omega) (by omega) (by omega)
      have pos := bn_pos (show f ≤ x + f - 1 by omega)
      refine ⟨(iN (p ++ [x]), ((r - bn (x + f - 1) f : Nat) : Int), ((f - 1 : Nat) : Int)), ?_, ⟨p ++ [x], r - bn (x + f - 1) f, f - 1, rfl, fun m g => ?_, fun h0 => ?_, ?_, by omega⟩, ?_⟩
      · unfold f_row_of_L1
        refine bs x1 (bs (appO_ok (by rw [len_iN]; omega)) (bs cb (bs rfl (bs rfl ?_))))
        rw [← iN_app, show (r : Int) - ((bn (x + f - 1) f : Nat) : Int) = ((r - bn (x + f - 1) f : Nat) : Int) by omega, show (f : Int) - 1 = ((f - 1 : Nat) : Int) by omega]
        rfl
      · rw [List.append_assoc]
        refine k1 _ ?_
        have q : Gs ((f - 1) + 1) r ([x] ++ m) := by
          refine ⟨by omega, x2, ?_, ?_, ?_⟩
          · rw [← ef, show x + (f - 1) = x + f - 1 by omega]
            exact x3
          · rw [← ef, show x + (f - 1) + 1 = x + f by omega]
            exact x4
          · rw [← ef, show x + (f - 1) = x + f - 1 by omega]
            exact g
        rwa [← ef] at q
      · have e := bn_succ (x + f - 1) (f - 1)
        rw [← ef, show x + f - 1 + 1 = x + f by omega] at e
        by_cases z : f = 1
        · subst z
          rw [bn_zero] at e
          omega
        · omega
      · rw [List.length_append]
        show p.length + 1 + (f - 1) = u
        omega
      · dsimp only
        rw [Int.toNat_natCast, Int.toNat_natCast]
        omega) ((n : Int).toNat + 1) ([], (n : Int), (u : Int)) ⟨[], n, u, rfl, fun m g => g, fun _ => hu, by show 0 + u = u; omega, Nat.le_refl _⟩ (by show (n : Int).toNat < _; omega)
  have e1 : r = 0 := by
    have w : some (decide ((0 : Int) < (r : Int))) = some false := w2
    have := of_decide_eq_false (Option.some.inj w)
    omega
  subst e1
  have g : Gs u n (p ++ []) := k1 [] rfl
  rw [List.append_nil] at g
  refine ⟨p, ?_, g⟩
  unfold f_row_of
  exact bs (q_is_natural _) (iF (by rw [decide_eq_true (by omega)]; rfl) (bs (q_is_number _) (iF (by rw [decide_eq_true (by omega)]; rfl) (bs rfl (bs rfl (bs rfl (bs w1 rfl)))))))
theorem q_row_of {u n : Nat} (hu : 1 ≤ u) (hu2 : u ≤ 1000) (hn : n < 2 ^ 200) : f_row_of (u : Int) (n : Int) = some (iN (rowN u n)) := by
  obtain ⟨m, h1, h2⟩ := e_row_of hu hu2 hn
  obtain ⟨g1, g2, g3⟩ := rowN_ok hu n
  have g := fl_gs g3 g2
  rw [g1] at g
  rw [h1, gs_one g h2]
theorem q_is_row {d : List Nat} (h : DnN d) (pos : ∀ a ∈ d, 1 ≤ a) (hl : d.length ≤ 1000000) : f_is_row (iN d) = some true := e_is_row (fw_sum h pos) hl
theorem q_falling (l : List Int) : f_falling l = some (downI l) := rfl
theorem q_merged {ms : List (List Nat)} (h : ∀ m ∈ ms, DnN m ∧ (∀ a ∈ m, 1 ≤ a) ∧ m.length ≤ 1000000) (hl : ms.flatten.length ≤ 1000000) (hm : ms.length ≤ 1000000) : f_merged (ms.map iN) = some (iN (dnN ms.flatten)) := by
  unfold f_merged
  refine bs (a := false) ?_ (iF rfl (bs (a := iN ms.flatten) ?_ (bs (q_falling _) (by rw [iN_dnN]))))
  · refine orF1 (bs (lcC_map (g' := fun _ => true) (by rw [List.length_map]; omega) fun a ha => ?_) (by simp))
    obtain ⟨m, hm, rfl⟩ := List.mem_map.mp ha
    obtain ⟨h1, h2, h3⟩ := h m hm
    exact bs (q_is_row h1 h2 h3) rfl
  · have e : (ms.map iN).flatMap (fun x => x) = iN ms.flatten := by
      rw [List.flatMap_map]
      unfold iN
      rw [List.map_flatten, List.flatMap_def]
    have z := lc2C_ok (i := fun x : List Int => some x) (js := fun x => x) (l := ms.map iN) (fun _ _ => rfl) (by rw [e, len_iN]; omega)
    rw [e] at z
    exact z
theorem q_cutw {u : Nat} (d : List Nat) : DL.cutD (iN d) none (some (u : Int)) = iN (d.take u) := by
  rw [cut_take]
  unfold iN
  rw [List.map_take]
theorem rows_few {u : Nat} (hu : 1 ≤ u) (hu2 : u ≤ 1000) {ns : List Nat} (hl : ns.length ≤ 1000) : ∀ m ∈ ns.map (rowN u), DnN m ∧ (∀ a ∈ m, 1 ≤ a) ∧ m.length ≤ 1000000 := fun m hm => by
  obtain ⟨n, _, rfl⟩ := List.mem_map.mp hm
  obtain ⟨_, h2, h3⟩ := rowN_ok hu n
  exact ⟨fw_down h3, fun a ha => (fw_mem h3 a ha).1, by omega⟩
theorem flat_few {u : Nat} (hu : 1 ≤ u) : ∀ (ns : List Nat), (ns.map (rowN u)).flatten.length ≤ ns.length * u
  | [] => Nat.zero_le _
  | n :: ns => by
    have ih := flat_few hu ns
    obtain ⟨_, h2, _⟩ := rowN_ok hu n
    rw [List.map_cons, List.flatten_cons, List.length_append, List.length_cons, Nat.succ_mul]
    omega
/-- numbers within a bound, joined -/
theorem q_of_merged {u x j : Nat} {ns : List Nat} (hu : 1 ≤ u) (hu2 : u ≤ 1000) (hl : ns.length ≤ 1000) (hx : ∀ n ∈ ns, Fw x (rowN u n)) (hj : x + u ≤ 2 ^ j) (hj2 : j * u < 134217728) :
    ∃ r, f_merged ((ns.map (rowN u)).map iN) = some r ∧ f_number_of (u : Int) (DL.cutD r none (some (u : Int))) = some ((jn u ns : Nat) : Int) := by
  have few := flat_few hu ns
  have m : ns.length * u ≤ 1000 * 1000 := Nat.mul_le_mul hl hu2
  refine ⟨_, q_merged (rows_few hu hu2 hl) (by omega) (by rw [List.length_map]; omega), ?_⟩
  rw [q_cutw]
  exact e_number_of (x := x) (j := j) (fw_cut fun a ha => by
    obtain ⟨n, hn, ha⟩ := List.mem_flatMap.mp ha
    exact fw_mem (hx n hn) a ha) (cutN_len _ _) hu (by omega) hj hj2
end K19
namespace K19
open PySem PySem.Spec PyProof.Rows L2 DL
section
variable {u x j : Nat} (hu : 1 ≤ u) (hu2 : u ≤ 1000) (hj : x + u ≤ 2 ^ j) (hj2 : j * u < 134217728)
include hu hu2 hj hj2
theorem q_joined {a b : Nat} (ha : a < 2 ^ 200) (hb : b < 2 ^ 200) (fa : Fw x (rowN u a)) (fb : Fw x (rowN u b)) : f_joined (u : Int) (a : Int) (b : Int) = some ((jn u [a, b] : Nat) : Int) := by
  unfold f_joined
  obtain ⟨r, h1, h2⟩ := q_of_merged (ns := [a, b]) hu hu2 (by show 2 ≤ 1000; omega) (fun n hn => by
    rcases List.mem_cons.mp hn with z | z
    · subst z; exact fa
    · rw [List.mem_singleton.mp z]; exact fb) hj hj2
  exact bs (q_nat hu) (iF rfl (bs (q_num a) (iF rfl (bs (q_num b) (iF rfl (bs (q_row_of hu hu2 ha) (bs (q_row_of hu hu2 hb) (bs h1 (bs h2 rfl)))))))))
theorem q_joined_all {ns : List Nat} (hl : ns.length ≤ 1000) (hn : ∀ n ∈ ns, n < 2 ^ 200) (hf : ∀ n ∈ ns, Fw x (rowN u n)) : f_joined_all (u : Int) (iN ns) = some ((jn u ns : Nat) : Int) := by
  unfold f_joined_all
  obtain ⟨r, h1, h2⟩ := q_of_merged (ns := ns) hu hu2 hl hf hj hj2
  have e : lcC (fun _ => some true) (fun x8 => (f_row_of (u : Int) x8).bind fun t9 => some t9) (iN ns) = some ((ns.map (rowN u)).map iN) := by
    unfold iN
    rw [lcC_map (g' := fun a : Int => iN (rowN u a.toNat)) (by rw [List.length_map]; omega) fun a ha => ?_]
    · rw [List.map_map, List.map_map]
      rfl
    · obtain ⟨n, hn2, rfl⟩ := List.mem_map.mp ha
      exact bs (q_row_of hu hu2 (hn n hn2)) rfl
  refine bs (q_nat hu) (iF rfl (bs (a := false) (orF1 (bs (lcC_map (g' := fun _ => true) (by rw [len_iN]; omega) fun a ha => ?_) (by simp))) (iF rfl (bs e (bs h1 (bs h2 rfl))))))
  obtain ⟨n, _, rfl⟩ := mem_iN'.mp ha
  exact bs (q_num n) rfl
theorem q_joined_many {a k : Nat} (ha : a < 2 ^ 200) (fa : Fw x (rowN u a)) : f_joined_many (u : Int) (a : Int) (k : Int) = some ((jn u (List.replicate (min k u) a) : Nat) : Int) := by
  unfold f_joined_many
  obtain ⟨r, h1, h2⟩ := q_of_merged (ns := List.replicate (min k u) a) hu hu2 (by rw [List.length_replicate]; omega) (fun n hn => by rw [List.eq_of_mem_replicate hn]; exact fa) hj hj2
  rw [List.map_replicate, List.map_replicate] at h1
  have cp : (if decide ((k : Int) < (u : Int)) = true then some (k : Int) else some (u : Int)) = some ((min k u : Nat) : Int) := by
    by_cases z : k < u
    · rw [if_pos (decide_eq_true (by omega)), Nat.min_eq_left (by omega)]
    · rw [if_neg (by rw [decide_eq_false (by omega)]; exact Bool.false_ne_true), Nat.min_eq_right (by omega)]
  refine bs (q_nat hu) (iF rfl (bs (q_num a) (iF rfl (bs (q_num k) (iF rfl (bs cp (bs (q_row_of hu hu2 ha) (bs (a := List.replicate (min k u) (iN (rowN u a))) ?_ (bs h1 (bs h2 rfl))))))))))
  unfold repTO
  rw [if_pos ⟨by omega, by omega, by show 1 ≤ 1000; omega⟩, Int.toNat_natCast]
  congr 1
  generalize min k u = t
  induction t with
  | zero => rfl
  | succ t ih =>
    rw [List.replicate_succ, List.replicate_succ, List.flatten_cons, ih]
    rfl
end
end K19
namespace K19
open PySem PySem.Spec PyProof.Rows L2 DL
theorem e_product {a b j : Nat} (h : b ≤ a) (ha : a + 1 ≤ 2 ^ j) (hj : j * (b + 1) < 1000000) (hb : b ≤ 1000000) : f_w_product (a : Int) (b : Int) = some ((bn a b : Nat) : Int) := by
  unfold f_w_product
  have lg : ∀ k, k ≤ b → (bn a k).log2 ≤ j * k := fun k _ => log_le (by
    rw [Nat.pow_mul]
    exact Nat.le_trans (bn_le_pow a k) (Nat.pow_le_pow_left ha k))
  have step : ∀ k, k < b → f_w_product_L1 (a : Int) (b : Int) (k : Int) ((bn a k : Nat) : Int) = some ((bn a (k + 1) : Nat) : Int) := fun k hk => by
    unfold f_w_product_L1
    have e : (a : Int) - (k : Int) = ((a - k : Nat) : Int) := by omega
    have l1 := lg k (by omega)
    have l2 : (a - k).log2 ≤ j := log_le (by omega)
    have l3 : j * k + j ≤ j * (b + 1) := by
      rw [← Nat.mul_succ]
      exact Nat.mul_le_mul_left j (by omega)
    refine bs (mulO_w (by rw [e, Int.natAbs_natCast, Int.natAbs_natCast]; omega)) (bs (divO_ok (by omega) (by omega)) ?_)
    congr 1
    rw [e]
    have st := bn_step (show k ≤ a by omega)
    have e2 : ((bn a k : Nat) : Int) * ((a - k : Nat) : Int) = ((bn a (k + 1) : Nat) : Int) * (((k + 1 : Nat) : Int)) := by
      rw [← Int.natCast_mul, ← Int.natCast_mul, st]
    rw [e2]
    exact Int.mul_ediv_cancel _ (by omega)
  have run := forS_n (n := b) (f := fun k => (k : Int)) (S := fun k => ((bn a k : Nat) : Int)) (body := fun x_1 told_ => f_w_product_L1 (a : Int) (b : Int) x_1 told_) step
  rw [bn_zero] at run
  refine bs rfl (bs (rng1O_n hb) (bs run (bs (a := ((bn a b : Nat) : Int)) ?_ rfl)))
  rw [if_pos (decide_eq_true (by omega)), mulO_w (by
    have l1 := lg b (Nat.le_refl _)
    have l3 : j * b ≤ j * (b + 1) := Nat.mul_le_mul_left j (by omega)
    have z : (1 : Int).natAbs.log2 = 0 := rfl
    rw [z, Int.natAbs_natCast]
    omega), Int.mul_one]
theorem e_place {m : List Nat} {x u j : Nat} (f : Fw x m) (hl : m.length ≤ u) (hu : 1 ≤ u) (hs : u ≤ 9000) (hx : x + u ≤ 2 ^ j) (hj : j * (u + 1) < 1000000) : f_w_place (u : Int) (iN m) = some ((rk u m : Nat) : Int) := by
  unfold f_w_place
  rw [len_iN]
  refine bs rfl (bs (rng1O_n (by omega)) ?_)
  have step : ∀ k, k < m.length → ∀ s : Int, s + ((rk (u - k) (m.drop k) : Nat) : Int) = ((rk u m : Nat) : Int) → ∃ s', f_w_place_L1 (u : Int) (iN m) (k : Int) s = some s' ∧ s' + ((rk (u - (k + 1)) (m.drop (k + 1)) : Nat) : Int) = ((rk u m : Nat) : Int) := by
    intro k hk s h
    obtain ⟨s1, s2⟩ := fw_size f hk
    refine ⟨s + ((bn (m[k] + (u - k - 1)) (u - k) : Nat) : Int), ?_, ?_⟩
    · unfold f_w_place_L1
      refine bs (iN_at hk) ?_
      rw [show ((m[k] : Nat) : Int) + (u : Int) - 1 - (k : Int) = ((m[k] + (u - k - 1) : Nat) : Int) by omega, show (u : Int) - (k : Int) = ((u - k : Nat) : Int) by omega]
      refine bs (e_product (j := j) (by omega) (by omega) ?_ (by omega)) rfl
      have : j * (u - k + 1) ≤ j * (u + 1) := Nat.mul_le_mul_left j (by omega)
      omega
    · rw [rk_drop hk (by omega)] at h
      omega
  obtain ⟨s', h1, h2⟩ := forS_J (n := m.length) (f := fun (k : Nat) => (k : Int)) (fun k (s : Int) => s + ((rk (u - k) (m.drop k) : Nat) : Int) = ((rk u m : Nat) : Int)) (body := fun x_1 told_ => f_w_place_L1 (u : Int) (iN m) x_1 told_) (s := 0) (by rw [Nat.sub_zero, List.drop_zero]; omega) step
  refine bs h1 ?_
  rw [List.drop_length] at h2
  have h3 : s' + ((0 : Nat) : Int) = ((rk u m : Nat) : Int) := h2
  congr 1
  omega
theorem e_after {m : List Nat} {x u : Nat} (f : Fw x m) (hl : m.length ≤ u) (hu : 1 ≤ u) (hs : u ≤ 1000000) : f_w_after (u : Int) (iN m) = some (iN (aft u m)) := by
  unfold f_w_after
  rw [len_iN]
  by_cases h : m.length < u
  · refine iT (decide_eq_true (by omega)) (bs (catO_ok (by rw [len_iN]; show m.length + 1 ≤ _; omega)) ?_)
    rw [aft_less h, ← iN_app]
    rfl
  · have hm : m ≠ [] := fun z => by
      subst z
      exact h hu
    have hp := List.length_pos_iff.mpr hm
    have la : m.getLast hm = m[m.length - 1] := List.getLast_eq_getElem hm
    refine iF (decide_eq_false (by omega)) (bs (a := ((m.getLast hm : Nat) : Int)) ?_ ?_)
    · rw [show (m.length : Int) - 1 = ((m.length - 1 : Nat) : Int) by omega, la]
      exact iN_at (by omega)
    · refine bs (lcC_iN (p' := fun a => decide (m.getLast hm < a)) (by omega) fun a _ => ?_) (bs (catO_ok ?_) ?_)
      · congr 1
        exact decide_eq_decide.mpr (by omega)
      · have := List.length_filter_le (fun a => decide (m.getLast hm < a)) m
        rw [len_iN]
        show _ + 1 ≤ _
        omega
      · rw [aft_full hm f (by omega), ← iN_app]
        rfl
theorem e_cut (u : Nat) (m : List Nat) : f_w_cut (u : Int) (iN m) = some (iN (cutN u m)) := by
  unfold f_w_cut
  rw [← iN_dnN, q_cutw]
  rfl
theorem is_int {a b : Int} (h : a = b) : f_w_is (.int a) (.int b) = some true := by
  subst h
  unfold f_w_is
  have e : bD (p_eq (.int a) (.int a)) = some true := by
    rw [bD_eq (f := PyData.int) (by decide), decide_eq_true rfl]
  exact bs (a := true) rfl (bs (a := true) (andTT rfl (bs (a := false) rfl (bs (a := true) (andTT rfl (bs e rfl)) rfl))) rfl)
theorem repN {m : List Nat} {k : Nat} (hk : k ≤ 1000) (hm : m.length ≤ 1000) : repTO (iN m) (k : Int) = some (iN (List.replicate k m).flatten) := by
  unfold repTO
  rw [if_pos ⟨by omega, by omega, by rw [len_iN]; exact hm⟩, Int.toNat_natCast]
  unfold iN
  rw [List.map_flatten, List.map_replicate]
def Dr (d : List Int) : Prop := ∀ x ∈ d, 0 ≤ x ∧ x < 983
theorem e_mixed (c k : Int) (hk : 0 ≤ k) (hk2 : k ≤ 1000) : ∃ x, f_w_mixed c k = some x ∧ 0 ≤ x ∧ x < 983 := by
  unfold f_w_mixed
  have h1 : mulO (c % 998244353 + 1237) (k * 6151 + 30011) = some ((c % 998244353 + 1237) * (k * 6151 + 30011)) := by
    unfold mulO mulC
    rw [if_pos (by rw [decide_eq_true (.inl (by omega)), Bool.true_or])]
  exact ⟨_, bs h1 (bs rfl rfl), by omega, by omega⟩
theorem dr_app {d : List Int} {x : Int} (h : Dr d) (h1 : 0 ≤ x) (h2 : x < 983) : Dr (d ++ [x]) := fun y hy => by
  rcases List.mem_append.mp hy with z | z
  · exact h y z
  · rw [List.mem_singleton.mp z]
    exact ⟨h1, h2⟩
theorem cut_min {α : Type} {l : List α} {v : Nat} : DL.cutD l none (some (v : Int)) = l.take v := by
  unfold DL.cutD
  rw [HT.sIx_nat, HT.sIx_none, List.drop_zero, Nat.sub_zero]
  by_cases h : v ≤ l.length
  · rw [Nat.min_eq_left h]
  · rw [Nat.min_eq_right (by omega), List.take_of_length_le (Nat.le_refl _), List.take_of_length_le (by omega)]
theorem e_draws1 {ns : List Int} {m x : Int} {s : List Int} {n : Nat} (h1 : s.length ≤ 60 * n) (h2 : Dr s) (hn : n ≤ 63) : ∃ s', f_w_draws_L1 ns m x s = some s' ∧ s'.length ≤ 60 * (n + 1) ∧ Dr s' := by
  unfold f_w_draws_L1
  refine bsX rfl (bsX (a := 1000000000000000000) rfl ?_)
  by_cases h : (if x < 0 then -x else x) < 1000000000000000000
  · refine iTX (decide_eq_true h) ?_
    obtain ⟨y, y1, y2, y3⟩ := e_mixed x 2 (by omega) (by omega)
    refine bsX y1 (bsX (appO_ok (by omega)) ⟨_, rfl, ?_, dr_app h2 y2 y3⟩)
    rw [List.length_append]
    show s.length + 1 ≤ _
    omega
  · refine iFX (decide_eq_false h) (bsX (rng1O_n (n := 60) (by omega)) ?_)
    obtain ⟨st, q1, q2, q3⟩ := forS_J (n := 60) (f := fun (k : Nat) => (k : Int)) (fun k (t : List Int × Int) => t.1.length ≤ 60 * n + k ∧ Dr t.1) (body := fun x_2 s_ => f_w_draws_L2 ns m x_2 s_.1 s_.2) (s := (s, (if x < 0 then -x else x))) ⟨h1, h2⟩ (by
      rintro k hk ⟨t, l⟩ ⟨t1, t2⟩
      dsimp only at t1 t2
      unfold f_w_draws_L2
      by_cases h : 0 < l
      · refine iTX (decide_eq_true h) (bsX (appO_ok (by dsimp only; omega)) (bsX rfl ⟨_, rfl, ?_, dr_app t2 (by omega) (by omega)⟩))
        rw [List.length_append]
        show t.length + 1 ≤ _
        omega
      · exact iFX (decide_eq_false h) ⟨_, rfl, by dsimp only; omega, t2⟩)
    exact bsX q1 ⟨_, rfl, by omega, q3⟩
theorem e_draws {ns : List Int} (hn : ns.length ≤ 63) : ∃ d, f_w_draws ns 102 = some d ∧ d.length = 102 ∧ Dr d := by
  have c63 : DL.cutD ns none (some (63 : Int)) = ns := (cut_min (v := 63)).trans (List.take_of_length_le hn)
  have d0 : Dr [] := fun x hx => by cases hx
  obtain ⟨t, a1, a2, a3⟩ := forS_J (n := ns.length) (f := fun (k : Nat) => gv ns (k + 1)) (fun k (t : List Int) => t.length ≤ 60 * k ∧ Dr t) (body := fun x_1 told_ => f_w_draws_L1 ns 102 x_1 told_) (s := []) ⟨Nat.zero_le _, d0⟩ (fun k hk t ⟨t1, t2⟩ => e_draws1 t1 t2 (by omega))
  rw [← l_rg ns] at a1
  have zs : Dr (List.replicate 102 (0 : Int)) := fun x hx => by
    rw [List.eq_of_mem_replicate hx]
    omega
  have last : ∀ t : List Int, t.length ≤ 5000 → Dr t → ∃ d, ((repO [(0 : Int)] 102).bind fun z => (catO t z).bind fun w => some (DL.cutD w none (some (102 : Int)))) = some d ∧ d.length = 102 ∧ Dr d := fun t h1 h2 => by
    refine bsX (repO_ok (n := 101) (by omega)) (bsX (catO_ok (by rw [List.length_replicate]; omega)) ⟨_, rfl, ?_, ?_⟩)
    · rw [show (102 : Int) = ((102 : Nat) : Int) from rfl, cut_min, List.length_take, List.length_append, List.length_replicate]
      omega
    · rw [show (102 : Int) = ((102 : Nat) : Int) from rfl, cut_min]
      intro x hx
      rcases List.mem_append.mp (List.mem_of_mem_take hx) with z | z
      · exact h2 x z
      · exact zs x z
  unfold f_w_draws
  refine bsX rfl ?_
  rw [c63]
  refine bsX a1 ?_
  by_cases h : 0 < ns.length
  · refine iTX (decide_eq_true (by omega)) (bsX (rng1O_n (n := 102) (by omega)) ?_)
    obtain ⟨w, b1, b2, b3⟩ := forS_J (n := 102) (f := fun (k : Nat) => (k : Int)) (fun k (w : List Int) => w.length ≤ 60 * 63 + k ∧ Dr w) (body := fun x_3 told_ => f_w_draws_L3 ns 102 x_3 told_) (s := t) ⟨by omega, a3⟩ (by
      rintro k hk w ⟨w1, w2⟩
      unfold f_w_draws_L3
      have hm : min (63 : Int) (ns.length : Int) = (ns.length : Int) := by omega
      rw [hm]
      have lt : k % ns.length < ns.length := Nat.mod_lt _ h
      refine bsX (a := ((k % ns.length : Nat) : Int)) ?_ (bsX (atI_at lt) ?_)
      · unfold modO
        rw [if_pos (by omega)]
        rfl
      · obtain ⟨y, y1, y2, y3⟩ := e_mixed (gv ns (k % ns.length + 1)) ((k : Int) + 7) (by omega) (by omega)
        refine bsX y1 (bsX (appO_ok (by omega)) ⟨_, rfl, ?_, dr_app w2 y2 y3⟩)
        rw [List.length_append]
        show w.length + 1 ≤ _
        omega)
    exact bsX b1 (last w (by omega) b3)
  · exact iFX (decide_eq_false (by omega)) (last t (by omega) a3)
theorem dr_at {d : List Int} {k : Nat} (h : Dr d) (hl : d.length = 102) (hk : k < 102) : ∃ x : Nat, atI d (k : Int) = some (x : Int) ∧ x < 983 := by
  have e : d[k]? = some d[k] := List.getElem?_eq_getElem (by omega)
  have z := h d[k] (List.getElem_mem _)
  refine ⟨d[k].toNat, ?_, by omega⟩
  rw [atI_nn, e, Int.toNat_of_nonneg z.1]
theorem e_great {d : List Int} {k : Nat} (h : Dr d) (hl : d.length = 102) (hk : k + 11 ≤ 102) : ∃ x : Nat, f_w_great d (k : Int) = some (x : Int) ∧ x < 983 ^ 10 := by
  obtain ⟨t, t1, t2⟩ := dr_at h hl (show k < 102 by omega)
  unfold f_w_great
  obtain ⟨s, b1, x, rfl, b2⟩ := forS_J (n := 1 + t % 10) (f := fun (i : Nat) => (i : Int)) (fun i (s : Int) => ∃ x : Nat, s = (x : Int) ∧ x < 983 ^ i) (body := fun x_1 told_ => f_w_great_L1 d (k : Int) x_1 told_) (s := 0) ⟨0, rfl, by decide⟩ (by
    rintro i hi s ⟨x, rfl, hx⟩
    obtain ⟨y, y1, y2⟩ := dr_at h hl (show k + 1 + i < 102 by omega)
    unfold f_w_great_L1
    refine ⟨((x * 983 + y : Nat) : Int), bs (a := (y : Int)) ?_ (bs rfl ?_), x * 983 + y, rfl, ?_⟩
    · rw [← y1]
      congr 1
    · congr 1
    · rw [Nat.pow_succ]
      omega)
  refine ⟨x, bs rfl (bs t1 (bs ?_ (bs b1 rfl))), Nat.lt_of_lt_of_le b2 (Nat.pow_le_pow_right (by decide) (by omega))⟩
  have e : (1 : Int) + (t : Int) % 10 = ((1 + t % 10 : Nat) : Int) := by omega
  rw [e]
  exact rng1O_n (by omega)
theorem repT1 {α : Type} {a : α} {n : Nat} (h : n ≤ 1000) : repTO [a] (n : Int) = some (List.replicate n a) := by
  unfold repTO
  rw [if_pos ⟨by omega, by omega, by show 1 ≤ 1000; omega⟩, Int.toNat_natCast]
  congr 1
  induction n with
  | zero => rfl
  | succ n ih =>
    rw [List.replicate_succ, List.replicate_succ, List.flatten_cons, ih (by omega)]
    rfl
end K19
namespace K19
open PySem PySem.Spec PyProof.Rows L2 DL
def Bd (u : Nat) : Nat := [100000000000000000000000000000, 100000000000000, 1000000000, 10000000, 100000, 10000, 10000, 1000, 1000, 100, 100, 100, 100, 100].getD (u - 1) 20
theorem bd_few (u : Nat) (h1 : 1 ≤ u) (h2 : u ≤ 40) : 1 ≤ Bd u ∧ Bd u ≤ 100000000000000000000000000000 ∧ f_w_bound (u : Int) = some ((Bd u : Nat) : Int) ∧ bn (Bd u + 1 + u) u < 2 ^ 200 := by
  match u, h1, h2 with
  | 1, _, _ => exact ⟨by decide, by decide, by kernel_rfl, Nat.lt_of_le_of_lt (bn_le_pow _ _) (by decide)⟩
  | 2, _, _ => exact ⟨by decide, by decide, by kernel_rfl, Nat.lt_of_le_of_lt (bn_le_pow _ _) (by decide)⟩
  | 3, _, _ => exact ⟨by decide, by decide, by kernel_rfl, Nat.lt_of_le_of_lt (bn_le_pow _ _) (by decide)⟩
  | 4, _, _ => exact ⟨by decide, by decide, by kernel_rfl, Nat.lt_of_le_of_lt (bn_le_pow _ _) (by decide)⟩
  | 5, _, _ => exact ⟨by decide, by decide, by kernel_rfl, Nat.lt_of_le_of_lt (bn_le_pow _ _) (by decide)⟩
  | 6, _, _ => exact ⟨by decide, by decide, by kernel_rfl, Nat.lt_of_le_of_lt (bn_le_pow _ _) (by decide)⟩
  | 7, _, _ => exact ⟨by decide, by decide, by kernel_rfl, Nat.lt_of_le_of_lt (bn_le_pow _ _) (by decide)⟩
  | 8, _, _ => exact ⟨by decide, by decide, by kernel_rfl, Nat.lt_of_le_of_lt (bn_le_pow _ _) (by decide)⟩
  | 9, _, _ => exact ⟨by decide, by decide, by kernel_rfl, Nat.lt_of_le_of_lt (bn_le_pow _ _) (by decide)⟩
  | 10, _, _ => exact ⟨by decide, by decide, by kernel_rfl, Nat.lt_of_le_of_lt (bn_le_pow _ _) (by decide)⟩
  | 11, _, _ => exact ⟨by decide, by decide, by kernel_rfl, Nat.lt_of_le_of_lt (bn_le_pow _ _) (by decide)⟩
  | 12, _, _ => exact ⟨by decide, by decide, by kernel_rfl, Nat.lt_of_le_of_lt (bn_le_pow _ _) (by decide)⟩
  | 13, _, _ => exact ⟨by decide, by decide, by kernel_rfl, Nat.lt_of_le_of_lt (bn_le_pow _ _) (by decide)⟩
  | 14, _, _ => exact ⟨by decide, by decide, by kernel_rfl, Nat.lt_of_le_of_lt (bn_le_pow _ _) (by decide)⟩
  | u + 15, _, h2 =>
    have e : Bd (u + 15) = 20 := by
      unfold Bd
      rw [List.getD_eq_getElem?_getD, List.getElem?_eq_none (by show 14 ≤ _; omega)]
      rfl
    rw [e]
    refine ⟨by decide, by decide, ?_, Nat.lt_of_le_of_lt (bn_le_two _ _) (Nat.pow_lt_pow_right (by decide) (by omega))⟩
    unfold f_w_bound
    refine bs rfl (bs rfl (bs rfl (bs rfl (bs rfl (bs rfl (bs rfl (bs rfl (iT ?_ rfl))))))))
    exact decide_eq_true (by show (14 : Int) < ((u + 15 : Nat) : Int); omega)
def xB (u : Nat) : Nat := Bd u + 1
structure RwOk (u : Nat) (m : List Nat) : Prop where
  fw : Fw (xB u) m
  len : m.length ≤ u
section
variable {u : Nat} (hu : 1 ≤ u) (hu2 : u ≤ 40)
include hu hu2
theorem xB_le : xB u + u ≤ 2 ^ 100 := by
  have := (bd_few u hu hu2).2.1
  unfold xB
  omega
theorem num_few {m : List Nat} (f : Fw (xB u) m) (h : m.length ≤ u) : rk u m < 2 ^ 200 := Nat.lt_trans (rk_lt f h) (bd_few u hu hu2).2.2.2
theorem RwOk.num {m : List Nat} (h : RwOk u m) : f_w_place (u : Int) (iN m) = some ((rk u m : Nat) : Int) := e_place (j := 100) h.fw h.len hu (by omega) (xB_le hu hu2) (by omega)
theorem RwOk.cut {ms : List (List Nat)} (h : ∀ m ∈ ms, RwOk u m) : RwOk u (cutN u ms.flatten) := ⟨fw_cut fun a ha => by
  obtain ⟨m, hm, ha⟩ := List.mem_flatten.mp ha
  exact fw_mem (h m hm).fw a ha, cutN_len _ _⟩
theorem RwOk.row {m : List Nat} (h : RwOk u m) : rowN u (rk u m) = m := rowN_of hu h.fw h.len
theorem jn_rows {ms : List (List Nat)} (h : ∀ m ∈ ms, RwOk u m) : jn u (ms.map (rk u)) = rk u (cutN u ms.flatten) := by
  unfold jn
  congr 2
  rw [List.flatMap_map]
  induction ms with
  | nil => rfl
  | cons m ms ih =>
    rw [List.flatMap_cons, List.flatten_cons, (h m (List.mem_cons_self ..)).row hu hu2, ih fun x hx => h x (List.mem_cons_of_mem _ hx)]
/-- a number of a row -/
structure NmOk (u : Nat) (n : Nat) : Prop where
  row : RwOk u (rowN u n)
  few : n < 2 ^ 200
theorem RwOk.nm {m : List Nat} (h : RwOk u m) : NmOk u (rk u m) := ⟨by rw [h.row hu hu2]; exact h, num_few hu hu2 h.fw h.len⟩
theorem nm_zero : NmOk u 0 := ⟨⟨True.intro, Nat.zero_le _⟩, by decide⟩
theorem NmOk.jn {ns : List Nat} (h : ∀ n ∈ ns, NmOk u n) : NmOk u (jn u ns) := by
  have r : RwOk u (cutN u (ns.flatMap (rowN u))) := RwOk.cut hu hu2 (ms := ns.map (rowN u)) fun m hm => by
    obtain ⟨n, hn, rfl⟩ := List.mem_map.mp hm
    exact (h n hn).row
  exact ⟨by rw [rowN_jn hu]; exact r, num_few hu hu2 r.fw r.len⟩
theorem f_j2 {a b : Nat} (ha : NmOk u a) (hb : NmOk u b) : f_joined (u : Int) (a : Int) (b : Int) = some ((DL.jn u [a, b] : Nat) : Int) := q_joined (x := xB u) (j := 100) hu (by omega) (xB_le hu hu2) (by omega) ha.few hb.few ha.row.fw hb.row.fw
theorem f_ja {ns : List Nat} (hl : ns.length ≤ 1000) (h : ∀ n ∈ ns, NmOk u n) : f_joined_all (u : Int) (iN ns) = some ((DL.jn u ns : Nat) : Int) := q_joined_all (x := xB u) (j := 100) hu (by omega) (xB_le hu hu2) (by omega) hl (fun n hn => (h n hn).few) fun n hn => (h n hn).row.fw
theorem f_jm {a k : Nat} (ha : NmOk u a) : f_joined_many (u : Int) (a : Int) (k : Int) = some ((DL.jn u (List.replicate (min k u) a) : Nat) : Int) := q_joined_many (x := xB u) (j := 100) hu (by omega) (xB_le hu hu2) (by omega) ha.few ha.row.fw
theorem v_members {d : List Int} {k : Nat} {p : List Nat} (h : Dr d) (hl : d.length = 102) (hk : k + 6 ≤ 102) (hp : p.length = 4) (pos : ∀ a ∈ p, 1 ≤ a ∧ a ≤ Bd u) : ∃ m, f_w_members (u : Int) (iN p) d (k : Int) = some (iN m) ∧ Fw (Bd u) m ∧ m.length ≤ u := by
  suffices z : ∃ r, f_w_members (u : Int) (iN p) d (k : Int) = some r ∧ ∃ m, r = iN m ∧ Fw (Bd u) m ∧ m.length ≤ u by
    obtain ⟨r, h1, m, rfl, h2⟩ := z
    exact ⟨m, h1, h2⟩
  unfold f_w_members
  refine bsX rfl (bsX (rng1O_n (n := 4) (by omega)) ?_)
  have at_p : ∀ i : Nat, i < 4 → ∃ a, atI (iN p) (i : Int) = some ((a : Nat) : Int) ∧ 1 ≤ a ∧ a ≤ Bd u := fun i hi => by
    have z : i < p.length := by omega
    exact ⟨p[i], iN_at z, pos _ (List.getElem_mem z)⟩
  obtain ⟨s, q1, t, rfl, q2, q3⟩ := forS_J (n := 4) (f := fun (i : Nat) => (i : Int)) (fun i (s : List Int) => ∃ t, s = iN t ∧ t.length ≤ 3 * i ∧ ∀ a ∈ t, 1 ≤ a ∧ a ≤ Bd u) (body := fun x_1 told_ => f_w_members_L1 (u : Int) (iN p) d (k : Int) x_1 told_) (s := []) ⟨[], rfl, Nat.zero_le _, fun a ha => by cases ha⟩ (by
    rintro i hi s ⟨t, rfl, t1, t2⟩
    obtain ⟨a, a1, a2, a3⟩ := at_p i hi
    obtain ⟨y, y1, y2⟩ := dr_at h hl (show k + i < 102 by omega)
    unfold f_w_members_L1
    have e : (y : Int) % 4 = ((y % 4 : Nat) : Int) := by omega
    refine ⟨iN (t ++ List.replicate (y % 4) a), bs a1 (bs (a := (y : Int)) (by rw [← y1]; rfl) (bs (a := iN (List.replicate (y % 4) a)) (by rw [e, repT1 (by omega)]; exact congrArg some (by unfold iN; rw [List.map_replicate])) (bs (catO_ok (by rw [len_iN, len_iN, List.length_replicate]; omega)) (by rw [iN_app])))), _, rfl, by rw [List.length_append, List.length_replicate]; omega, fun b hb => ?_⟩
    rcases List.mem_append.mp hb with z | z
    · exact t2 b z
    · rw [List.eq_of_mem_replicate z]
      exact ⟨a2, a3⟩)
  refine bsX q1 ?_
  obtain ⟨y4, y1, _⟩ := dr_at h hl (show k + 4 < 102 by omega)
  refine bsX (a := (y4 : Int)) (by rw [← y1]; rfl) ?_
  by_cases z : (y4 : Int) % 4 = 0
  · obtain ⟨y5, x1, _⟩ := dr_at h hl (show k + 5 < 102 by omega)
    obtain ⟨a, a1, a2, a3⟩ := at_p (y5 % 4) (by omega)
    refine iTX (decide_eq_true z) (bsX (a := (y5 : Int)) (by rw [← x1]; rfl) (bsX (a := (a : Int)) (by rw [← a1]; rfl) (bsX (repT1 (by omega)) (bsX (a := iN (t ++ List.replicate u a)) ?_ (bsX (e_cut u _) ⟨_, rfl, _, rfl, fw_cut fun b hb => ?_, cutN_len _ _⟩)))))
    · have e : List.replicate u (a : Int) = iN (List.replicate u a) := by
        unfold iN
        rw [List.map_replicate]
      rw [e, catO_ok (by rw [len_iN, len_iN, List.length_replicate]; omega), iN_app]
    · rcases List.mem_append.mp hb with z | z
      · exact q3 b z
      · rw [List.eq_of_mem_replicate z]
        exact ⟨a2, a3⟩
  · exact iFX (decide_eq_false z) (bsX (e_cut u _) ⟨_, rfl, _, rfl, fw_cut q3, cutN_len _ _⟩)
theorem v_pool {d : List Int} (h : Dr d) (hl : d.length = 102) : ∃ p : List Nat, lcC (fun x2 => some true) (fun x2 => (f_w_great d ((46 : Int) + ((11 : Int) * x2))).bind fun t3 => (f_w_bound (u : Int)).bind fun t4 => (modO t3 t4).bind fun t5 => some ((1 : Int) + t5)) ((List.range 4).map fun (k : Nat) => (k : Int)) = some (iN p) ∧ p.length = 4 ∧ ∀ a ∈ p, 1 ≤ a ∧ a ≤ Bd u := by
  obtain ⟨b1, b2, b3, _⟩ := bd_few u hu hu2
  let g : Nat → Nat := fun k => 1 + ((f_w_great d ((46 : Int) + ((11 : Int) * (k : Int)))).getD 0).toNat % Bd u
  refine ⟨(List.range 4).map g, ?_, by rw [List.length_map, List.length_range], fun a ha => ?_⟩
  · rw [lcC_rg (n := 4) (f := fun (k : Nat) => (k : Int)) (g' := fun k => ((g k : Nat) : Int)) (by omega) fun k hk => ?_]
    · unfold iN
      rw [List.map_map]
      rfl
    · obtain ⟨x, x1, _⟩ := e_great h hl (show 46 + 11 * k + 11 ≤ 102 by omega)
      have x1 : f_w_great d ((46 : Int) + ((11 : Int) * (k : Int))) = some (x : Int) := by rw [← x1]; congr 1
      refine bs x1 (bs b3 (bs (a := ((x % Bd u : Nat) : Int)) ?_ ?_))
      · unfold modO
        rw [if_pos (by omega)]
        rfl
      · show some _ = some ((1 + ((f_w_great d ((46 : Int) + ((11 : Int) * (k : Int)))).getD 0).toNat % Bd u : Nat) : Int)
        rw [x1]
        show some _ = some ((1 + (x : Int).toNat % Bd u : Nat) : Int)
        rw [Int.toNat_natCast]
        exact congrArg some (by omega)
  · obtain ⟨k, _, rfl⟩ := List.mem_map.mp ha
    have := Nat.mod_lt ((f_w_great d ((46 : Int) + ((11 : Int) * (k : Int)))).getD 0).toNat b1
    show 1 ≤ 1 + _ % _ ∧ 1 + _ % _ ≤ _
    omega
end
end K19
namespace K19
open PySem PySem.Spec PyProof.Rows L2 DL
theorem q_capacity {u r : Nat} (hu : 1 ≤ u) (hu2 : u ≤ 1000) (hr : 1 ≤ r) (hr2 : r ≤ 1000) : f_capacity (u : Int) (r : Int) = some ((bn (r + u) u : Nat) : Int) := by
  unfold f_capacity
  refine bs (q_nat hu) (iF rfl (bs (q_nat hr) (iF rfl (bs (a := ((bn (u + r) r : Nat) : Int)) ?_ ?_))))
  · rw [show (u : Int) + (r : Int) = ((u + r : Nat) : Int) by omega]
    exact e_comb (j := 11) (by omega) (show u + r + 1 ≤ 2048 by omega) (by omega) (by omega)
  · rw [← bn_sym u r, Nat.add_comm]
theorem catN {l m : List Nat} (h : l.length + m.length ≤ 1000000) : catO (iN l) (iN m) = some (iN (l ++ m)) := by
  rw [catO_ok (by rw [len_iN, len_iN]; omega), iN_app]
theorem rep_count {m : List Nat} {e : Nat} (h : e ∈ m) : ∀ j, j ≤ ((List.replicate j m).flatten.filter fun x => decide (e ≤ x)).length
  | 0 => Nat.zero_le _
  | j + 1 => by
    rw [List.replicate_succ, List.flatten_cons, List.filter_append, List.length_append]
    have a := rep_count h j
    have b : 0 < (m.filter fun x => decide (e ≤ x)).length := List.length_pos_of_mem (List.mem_filter.mpr ⟨h, decide_eq_true (Nat.le_refl e)⟩)
    omega
theorem rep_cut {u : Nat} {m : List Nat} : ∀ i, cutN u (List.replicate (u + i) m).flatten = cutN u (List.replicate u m).flatten
  | 0 => rfl
  | i + 1 => by
    rw [← Nat.add_assoc, List.replicate_succ, List.flatten_cons, cut_more fun e he => Nat.le_trans (Nat.le_add_right u i) (rep_count he (u + i)), rep_cut i]
theorem flat_rep {u a : Nat} (k : Nat) : (List.replicate k a).flatMap (rowN u) = (List.replicate k (rowN u a)).flatten := by
  rw [← List.flatMap_id, ← List.map_replicate, List.flatMap_map]
  rfl
theorem jn_min {u a : Nat} (k : Nat) : DL.jn u (List.replicate (min k u) a) = DL.jn u (List.replicate k a) := by
  by_cases h : k ≤ u
  · rw [Nat.min_eq_left h]
  · rw [Nat.min_eq_right (by omega)]
    unfold DL.jn
    rw [flat_rep, flat_rep]
    obtain ⟨i, rfl⟩ : ∃ i, k = u + i := ⟨k - u, by omega⟩
    rw [rep_cut i]
section
variable {u : Nat} (hu : 1 ≤ u) (hu2 : u ≤ 40)
include hu hu2
theorem jn_eq {ms : List (List Nat)} {w : List Nat} (h : ∀ m ∈ ms, RwOk u m) (p : ms.flatten.Perm w) : DL.jn u (ms.map (rk u)) = rk u (cutN u w) := by
  rw [jn_rows hu hu2 h, cutN_congr p]
theorem rw_of {ms : List (List Nat)} {w : List Nat} (h : ∀ m ∈ ms, RwOk u m) (p : ms.flatten.Perm w) : RwOk u (cutN u w) := by
  rw [← cutN_congr p]
  exact RwOk.cut hu hu2 h
theorem all2 {α : Type} {P : α → Prop} {a b : α} (ha : P a) (hb : P b) : ∀ m ∈ [a, b], P m := fun m hm => by
  rcases List.mem_cons.mp hm with z | z
  · rw [z]; exact ha
  · rw [List.mem_singleton.mp z]; exact hb
theorem all3 {α : Type} {P : α → Prop} {a b c : α} (ha : P a) (hb : P b) (hc : P c) : ∀ m ∈ [a, b, c], P m := fun m hm => by
  rcases List.mem_cons.mp hm with z | z
  · rw [z]; exact ha
  · exact all2 hu hu2 hb hc m z
theorem jn_two {a b : Nat} (h : NmOk u a) (k : NmOk u b) : NmOk u (DL.jn u [a, b]) := NmOk.jn hu hu2 (all2 hu hu2 h k)
theorem v_many (m : List Nat) (k : Nat) (hk : k ≤ 1000) (hm : RwOk u m) : ∃ w, repTO (iN m) (k : Int) = some (iN w) ∧ f_w_cut (u : Int) (iN w) = some (iN (cutN u w)) ∧ f_w_place (u : Int) (iN (cutN u w)) = some ((DL.jn u (List.replicate k (rk u m)) : Nat) : Int) := by
  have hs : ∀ x ∈ List.replicate k m, RwOk u x := fun x hx => by rw [List.eq_of_mem_replicate hx]; exact hm
  refine ⟨_, repN hk (by have := hm.len; omega), e_cut u _, ?_⟩
  rw [(rw_of hu hu2 hs (List.Perm.refl _)).num hu hu2, ← jn_eq hu hu2 hs (List.Perm.refl _), List.map_replicate]
theorem v_far {d : List Int} (h : Dr d) (hl : d.length = 102) : f_w_far (u : Int) d = some true := by
  obtain ⟨p, p1, p2, p3⟩ := v_pool hu hu2 h hl
  obtain ⟨L, l1, l2, l3⟩ := v_members hu hu2 (k := 22) h hl (by omega) p2 p3
  obtain ⟨R, r1, r2, r3⟩ := v_members hu hu2 (k := 28) h hl (by omega) p2 p3
  obtain ⟨T, t1, t2, t3⟩ := v_members hu hu2 (k := 34) h hl (by omega) p2 p3
  have up : Bd u ≤ xB u := Nat.le_succ _
  have oL : RwOk u L := ⟨l2.le up, l3⟩
  have oR : RwOk u R := ⟨r2.le up, r3⟩
  have oT : RwOk u T := ⟨t2.le up, t3⟩
  have nL := oL.nm hu hu2
  have nR := oR.nm hu hu2
  have nT := oT.nm hu hu2
  have z0 := nm_zero hu hu2
  have fl2 : ∀ a b : List Nat, [a, b].flatten.Perm (a ++ b) := fun a b => by
    rw [show [a, b].flatten = a ++ b by simp]
  have fl3 : ∀ a b c : List Nat, [a, b, c].flatten.Perm (a ++ b ++ c) := fun a b c => by
    rw [show [a, b, c].flatten = a ++ b ++ c by simp]
  have oLR : RwOk u (cutN u (L ++ R)) := rw_of hu hu2 (all2 hu hu2 oL oR) (fl2 L R)
  have oLRT : RwOk u (cutN u (L ++ R ++ T)) := rw_of hu hu2 (all3 hu hu2 oL oR oT) (fl3 L R T)
  have jLR : DL.jn u [rk u L, rk u R] = rk u (cutN u (L ++ R)) := jn_eq hu hu2 (all2 hu hu2 oL oR) (fl2 L R)
  have jRL : DL.jn u [rk u R, rk u L] = rk u (cutN u (L ++ R)) := (jn_perm (List.Perm.swap ..)).trans jLR
  have jLRT : DL.jn u [rk u L, rk u R, rk u T] = rk u (cutN u (L ++ R ++ T)) := jn_eq hu hu2 (all3 hu hu2 oL oR oT) (fl3 L R T)
  have nLR := jn_two hu hu2 nL nR
  have nRT := jn_two hu hu2 nR nT
  have as1 : DL.jn u [DL.jn u [rk u L, rk u R], rk u T] = rk u (cutN u (L ++ R ++ T)) := (jn_app hu [rk u L, rk u R] [rk u T]).trans jLRT
  have as2 : DL.jn u [rk u L, DL.jn u [rk u R, rk u T]] = rk u (cutN u (L ++ R ++ T)) := by
    have q1 : DL.jn u [rk u L, DL.jn u [rk u R, rk u T]] = DL.jn u [DL.jn u [rk u R, rk u T], rk u L] := jn_perm (List.Perm.swap ..)
    have q2 := jn_app hu [rk u R, rk u T] [rk u L]
    have q3 : DL.jn u ([rk u R, rk u T] ++ [rk u L]) = DL.jn u [rk u L, rk u R, rk u T] := jn_perm (List.perm_append_comm (l₁ := [rk u R, rk u T]) (l₂ := [rk u L]))
    rw [q1, q2, q3, jLRT]
  have al1 : DL.jn u [rk u T, rk u L, 0, rk u R] = rk u (cutN u (L ++ R ++ T)) := by
    have q1 : DL.jn u [rk u T, rk u L, 0, rk u R] = DL.jn u (0 :: [rk u L, rk u R, rk u T]) := jn_perm (by
      refine (List.Perm.cons _ (List.Perm.swap ..)).trans ((List.Perm.swap ..).trans (List.Perm.cons _ ?_))
      exact List.perm_append_comm (l₁ := [rk u T]) (l₂ := [rk u L, rk u R]))
    rw [q1, jn_zero hu, jLRT]
  have al2 : DL.jn u [rk u R, rk u T, rk u L] = rk u (cutN u (L ++ R ++ T)) := by
    rw [← jLRT]
    exact jn_perm (List.perm_append_comm (l₁ := [rk u R, rk u T]) (l₂ := [rk u L]))
  have oA : RwOk u (aft u L) := ⟨aft_fl1 l2 l3 hu (bd_few u hu hu2).1, aft_len l3 hu⟩
  have nA := oA.nm hu hu2
  have oAR : RwOk u (cutN u (aft u L ++ R)) := rw_of hu hu2 (all2 hu hu2 oA oR) (fl2 _ R)
  have jAR : DL.jn u [rk u L + 1, rk u R] = rk u (cutN u (aft u L ++ R)) := by
    rw [← rk_aft l3 hu]
    exact jn_eq hu hu2 (all2 hu hu2 oA oR) (fl2 _ R)
  rw [rk_aft l3 hu] at nA
  have jx0 : DL.jn u [rk u L, 0] = rk u L := by
    rw [show DL.jn u [rk u L, 0] = DL.jn u [0, rk u L] from jn_perm (List.Perm.swap ..), jn_zero hu, jn_one hu]
  have j0y : DL.jn u [0, rk u R] = rk u R := by rw [jn_zero hu, jn_one hu]
  obtain ⟨g, g1, _⟩ := e_great h hl (show 90 + 11 ≤ 102 by omega)
  obtain ⟨c, c1, _⟩ := dr_at h hl (show 40 < 102 by omega)
  obtain ⟨e, e1, _⟩ := dr_at h hl (show 41 < 102 by omega)
  obtain ⟨w1, a1, a2, a3⟩ := v_many hu hu2 R u (by omega) oR
  have jy1 := f_jm hu hu2 (k := u + g) nR
  have jy2 := f_jm hu hu2 (k := u) nR
  rw [show min (u + g) u = u by omega] at jy1
  rw [Nat.min_self] at jy2
  have lt : c % (u + 2) < u + 2 := Nat.mod_lt _ (by omega)
  have jz := f_jm hu hu2 (k := c % (u + 2)) nT
  rw [jn_min] at jz
  have room := q_capacity (u := u) (r := 1 + e % 99) hu (by omega) (by omega) (by omega)
  have prod := e_product (a := 1 + e % 99 + u) (b := u) (j := 8) (by omega) (by omega) (by omega) (by omega)
  have le := jn_lt (u := u) (x := 1 + e % 99) hu [rk u L, rk u R]
  rw [jLR] at le
  unfold f_w_far
  refine bs (rng1O_n (n := 4) (by omega)) (bs p1 (bs l1 (bs r1 (bs t1 (bs (oL.num hu hu2) (bs (oR.num hu hu2) (bs (oT.num hu hu2) (bs (catN (by omega)) (bs (e_cut u _) (bs (oLR.num hu hu2) ?_))))))))))
  refine bs (f_j2 hu hu2 nL nR) (bs (is_int (by rw [jLR])) (bs (a := false) (orF1 (bs (f_j2 hu hu2 nR nL) (bs (is_int (by rw [jRL])) rfl))) (iF rfl ?_)))
  refine bs (catN (by omega)) (bs (catN (by rw [List.length_append]; omega)) (bs (e_cut u _) (bs (oLRT.num hu hu2) ?_)))
  refine bs (f_j2 hu hu2 nL nR) (bs (f_j2 hu hu2 nLR nT) (bs (is_int (by rw [as1])) (bs (a := false) (orF1 (bs (f_j2 hu hu2 nR nT) (bs (f_j2 hu hu2 nL nRT) (bs (is_int (by rw [as2])) rfl)))) (iF rfl ?_))))
  refine bs (f_ja hu hu2 (ns := [rk u T, rk u L, 0, rk u R]) (by show 4 ≤ _; omega) ?_) (bs (is_int (by rw [al1])) (bs (a := false) (orF1 (bs (f_ja hu hu2 (ns := [rk u R, rk u T, rk u L]) (by show 3 ≤ _; omega) (all3 hu hu2 nR nT nL)) (bs (is_int (by rw [al2])) rfl))) (iF rfl ?_)))
  · intro n hn
    rcases List.mem_cons.mp hn with z | z
    · rw [z]; exact nT
    · exact all3 hu hu2 nL z0 nR n z
  refine bs (e_after l2 l3 hu (by omega)) (bs (catN (by have := oA.len; omega)) (bs (e_cut u _) (bs (oAR.num hu hu2) (bs (f_j2 hu hu2 nA nR) (bs (is_int (by rw [jAR])) (iF rfl ?_))))))
  refine bs (f_j2 hu hu2 nL z0) (bs (is_int (by rw [jx0])) (bs (a := false) (orF1 (bs (f_j2 hu hu2 z0 nR) (bs (is_int (by rw [j0y])) rfl))) (iF rfl ?_)))
  refine bs a1 (bs a2 (bs a3 (bs g1 (bs rfl (bs jy1 (bs (is_int rfl) (bs (a := false) (orF1 (bs jy2 (bs (is_int rfl) rfl))) (iF rfl ?_))))))))
  refine bs c1 (bs (a := ((c % (u + 2) : Nat) : Int)) ?_ ?_)
  · unfold modO
    rw [if_pos (by omega)]
    rfl
  · obtain ⟨w2, b1, b2, b3⟩ := v_many hu hu2 T (c % (u + 2)) (by omega) oT
    refine bs b1 (bs b2 (bs b3 (bs jz (bs (is_int rfl) (iF rfl (bs e1 (bs (a := ((bn (1 + e % 99 + u) u : Nat) : Int)) ?_ ?_)))))))
    · rw [show (1 : Int) + (e : Int) % 99 = ((1 + e % 99 : Nat) : Int) by omega]
      exact room
    · refine bs (a := true) (andTT' (decide_eq_true ?_) (bs e1 (bs (a := ((bn (1 + e % 99 + u) u : Nat) : Int)) ?_ ?_))) rfl
      · have x1 : ∀ k ∈ [rk u L, rk u R], k < bn (1 + e % 99 + u) u ↔ ((k : Nat) : Int) < ((bn (1 + e % 99 + u) u : Nat) : Int) := fun k _ => by omega
        rw [← Bool.decide_and]
        refine decide_eq_decide.mpr ⟨fun q => ?_, fun q => ?_⟩
        · have z := le.mp (by omega)
          have z1 := z _ (List.mem_cons_self ..)
          have z2 := z _ (List.mem_cons_of_mem _ (List.mem_cons_self ..))
          omega
        · have z := le.mpr (all2 hu hu2 (by omega) (by omega))
          omega
      · rw [show (u : Int) + 1 + (e : Int) % 99 = ((1 + e % 99 + u : Nat) : Int) by omega]
        exact prod
      · rw [decide_eq_true rfl]
end
end K19
namespace K19
open PySem PySem.Spec PyProof.Rows L2 DL
theorem forG_same {X σ ρ : Type} {s : σ} {body : X → σ → Option (Lp σ ρ)} : ∀ {l : List X}, (∀ x ∈ l, body x s = some (.nx s)) → forG body l s = some (.nx s)
  | [], _ => rfl
  | a :: l, h => by
    show (body a s).bind _ = _
    rw [h a (List.mem_cons_self ..)]
    exact forG_same fun x hx => h x (List.mem_cons_of_mem _ hx)
theorem first_rg {α : Type} [DecidableEq α] {f : Nat → α} {k : Nat} (inj : ∀ j, f j = f k → j = k) : ∀ (m a : Nat), a ≤ k → k < a + m → firstL (f k) ((List.range' a m).map f) = some (k - a)
  | 0, a, h1, h2 => absurd h2 (by omega)
  | m + 1, a, h1, h2 => by
    show (if f a = f k then some 0 else (firstL (f k) ((List.range' (a + 1) m).map f)).map (· + 1)) = _
    by_cases z : a = k
    · rw [if_pos (by rw [z]), z, Nat.sub_self]
    · rw [if_neg fun q => z (inj a q), first_rg inj m (a + 1) (by omega) (by omega)]
      show some (k - (a + 1) + 1) = some (k - a)
      exact congrArg some (by omega)
def lst (u N : Nat) : List (List Int) := (List.range N).map fun k => iN (rowN u k)
theorem iN_inj {l m : List Nat} (h : iN l = iN m) : l = m := by
  rw [← natL_iN l, h, natL_iN]
structure Few (u c N : Nat) : Prop where
  hu : 1 ≤ u
  hu2 : u ≤ 12
  hc : c ≤ 20
  hN : bn (c + u) u = N
  h1 : 1 ≤ N
  h2 : N ≤ 100
section
variable {u c N : Nat} (F : Few u c N)
include F
theorem Few.fw {k : Nat} (h : k < N) : Fw c (rowN u k) := by
  obtain ⟨a1, a2, a3⟩ := rowN_ok F.hu k
  exact (fw_iff a3 a2).mp (by rw [a1, F.hN]; exact h)
theorem Few.len {k : Nat} : (rowN u k).length ≤ u := (rowN_ok F.hu k).2.1
theorem Few.jlt {ns : List Nat} (h : ∀ n ∈ ns, n < N) : DL.jn u ns < N := by
  have z := (jn_lt (x := c) F.hu ns).mpr fun k hk => by rw [F.hN]; exact h k hk
  rw [F.hN] at z
  exact z
theorem Few.at {k : Nat} (h : k < N) : atI (lst u N) (k : Int) = some (iN (rowN u k)) := atI_rg h
theorem Few.ll : (lst u N).length = N := by
  unfold lst
  rw [List.length_map, List.length_range]
theorem Few.idx {ns : List Nat} (h : ∀ n ∈ ns, n < N) : idxO (lst u N) (iN (cutN u (ns.flatMap (rowN u)))) = some ((DL.jn u ns : Nat) : Int) := by
  rw [← rowN_jn F.hu]
  unfold idxO lst
  rw [List.range_eq_range', first_rg (f := fun k => iN (rowN u k)) (k := DL.jn u ns) (fun j hj => by
    have z := congrArg (rk u) (iN_inj hj)
    rwa [(rowN_ok F.hu j).1, (rowN_ok F.hu _).1] at z) N 0 (Nat.zero_le _) (by have := F.jlt h; omega), Nat.sub_zero]
  rfl
theorem Few.j2 {a b : Nat} (ha : a < N) (hb : b < N) : f_joined (u : Int) (a : Int) (b : Int) = some ((DL.jn u [a, b] : Nat) : Int) := by
  have P : (100 : Nat) < 2 ^ 200 := by decide
  have h1 := F.hu2
  have h2 := F.hc
  have h3 := F.h2
  exact q_joined (x := c) (j := 10) F.hu (by omega) (by omega) (by omega) (by omega) (by omega) (F.fw ha) (F.fw hb)
theorem Few.ja {ns : List Nat} (hl : ns.length ≤ 1000) (h : ∀ n ∈ ns, n < N) : f_joined_all (u : Int) (iN ns) = some ((DL.jn u ns : Nat) : Int) := by
  have P : (100 : Nat) < 2 ^ 200 := by decide
  have h1 := F.hu2
  have h2 := F.hc
  have h3 := F.h2
  exact q_joined_all (x := c) (j := 10) F.hu (by omega) (by omega) (by omega) hl (fun n hn => by have := h n hn; omega) fun n hn => F.fw (h n hn)
theorem Few.jm {a k : Nat} (ha : a < N) : f_joined_many (u : Int) (a : Int) (k : Int) = some ((DL.jn u (List.replicate k a) : Nat) : Int) := by
  have P : (100 : Nat) < 2 ^ 200 := by decide
  have h1 := F.hu2
  have h2 := F.hc
  have h3 := F.h2
  rw [← jn_min]
  exact q_joined_many (x := c) (j := 10) F.hu (by omega) (by omega) (by omega) (by omega) (F.fw ha)
theorem two_lt {a b : Nat} (ha : a < N) (hb : b < N) : ∀ n ∈ [a, b], n < N := fun n hn => by
  rcases List.mem_cons.mp hn with z | z
  · rw [z]; exact ha
  · rw [List.mem_singleton.mp z]; exact hb
theorem v_pairs {x : Nat} {d : List Int} (hx : x < N) : forG (fun x_1 (listed_ : (List (List Int))) => f_w_small_L1 (u : Int) d (x : Int) x_1 listed_) ((List.range N).map fun (k : Nat) => (k : Int)) (lst u N) = some (.nx (lst u N)) := forG_same fun y hy => by
  obtain ⟨k, hk, rfl⟩ := List.mem_map.mp hy
  have hk := List.mem_range.mp hk
  have l1 := F.len (k := x)
  have l2 := F.len (k := k)
  have h1 := F.hu2
  unfold f_w_small_L1
  have ix := F.idx (two_lt F hx hk)
  have e : [x, k].flatMap (rowN u) = rowN u x ++ rowN u k := by simp
  rw [e] at ix
  refine bs (F.at hx) (bs (F.at hk) (bs (catN (by omega)) (bs (e_cut u _) (bs ix (bs (F.j2 hx hk) (bs (is_int rfl) (bs (a := false) (orF1 (bs (F.j2 hk hx) (bs (is_int ?_) rfl))) (iF rfl rfl))))))))
  rw [show DL.jn u [k, x] = DL.jn u [x, k] from jn_perm (List.Perm.swap ..)]
theorem v_times {x : Nat} (hx : x < N) : forG (fun x_4 (listed_ : (List (List Int))) => f_w_small_L4 (u : Int) (x : Int) x_4 listed_) ((List.range (u + 4)).map fun (k : Nat) => (k : Int)) (lst u N) = some (.nx (lst u N)) := forG_same fun y hy => by
  obtain ⟨k, hk, rfl⟩ := List.mem_map.mp hy
  have hk := List.mem_range.mp hk
  have l1 := F.len (k := x)
  have h1 := F.hu2
  have al : ∀ n ∈ List.replicate k x, n < N := fun n hn => by rw [List.eq_of_mem_replicate hn]; exact hx
  have ix := F.idx al
  rw [flat_rep] at ix
  have ja := F.ja (by rw [List.length_replicate]; omega) al
  have e : List.replicate k (x : Int) = iN (List.replicate k x) := by
    unfold iN
    rw [List.map_replicate]
  unfold f_w_small_L4
  refine bs (F.at hx) (bs (repN (by omega) (by omega)) (bs (e_cut u _) (bs ix (bs (F.jm hx) (bs (is_int rfl) (bs (a := false) (orF1 (bs (repT1 (by omega)) (bs (a := ((DL.jn u (List.replicate k x) : Nat) : Int)) ?_ (bs (is_int rfl) rfl)))) (iF rfl rfl)))))))
  rw [e]
  exact ja
theorem v_merge {x : Int} {all : List Int} : ∀ (ps : List Nat) (a : List Nat), (∀ n ∈ ps, n < N) → a.length + ps.length * 12 ≤ 100000 → forS (fun x_2 (merged_ : (List Int)) => f_w_small_L2 (u : Int) (lst u N) x all x_2 merged_) (iN ps) (iN a) = some (iN (a ++ ps.flatMap (rowN u)))
  | [], a, _, _ => by
    rw [List.flatMap_nil, List.append_nil]
    rfl
  | p :: ps, a, h, hl => by
    have l1 := F.len (k := p)
    have h1 := F.hu2
    rw [List.length_cons] at hl
    show (f_w_small_L2 (u : Int) (lst u N) x all ((p : Nat) : Int) (iN a)).bind _ = _
    refine bs (a := iN (a ++ rowN u p)) ?_ ?_
    · unfold f_w_small_L2
      exact bs (F.at (h p (List.mem_cons_self ..))) (bs (catN (by omega)) rfl)
    · rw [List.flatMap_cons, ← List.append_assoc]
      exact v_merge ps _ (fun n hn => h n (List.mem_cons_of_mem _ hn)) (by rw [List.length_append]; omega)
theorem v_fold {x due : Int} {all : List Int} : ∀ (ps : List Nat) (as : List Nat), (∀ n ∈ ps, n < N) → (∀ n ∈ as, n < N) → forS (fun x_3 (folded_ : Int) => f_w_small_L3 (u : Int) (lst u N) x all due x_3 folded_) (iN ps) ((DL.jn u as : Nat) : Int) = some ((DL.jn u (as ++ ps) : Nat) : Int)
  | [], as, _, _ => by
    rw [List.append_nil]
    rfl
  | p :: ps, as, h, h2 => by
    show (f_w_small_L3 (u : Int) (lst u N) x all due ((p : Nat) : Int) ((DL.jn u as : Nat) : Int)).bind _ = _
    have hp := h p (List.mem_cons_self ..)
    have e : DL.jn u [p, DL.jn u as] = DL.jn u (as ++ [p]) := (jn_perm (List.Perm.swap ..)).trans (jn_app F.hu as [p])
    refine bs (a := ((DL.jn u (as ++ [p]) : Nat) : Int)) ?_ ?_
    · unfold f_w_small_L3
      exact bs (F.j2 hp (F.jlt h2)) (by rw [e])
    · rw [show as ++ p :: ps = as ++ [p] ++ ps by simp]
      exact v_fold ps _ (fun n hn => h n (List.mem_cons_of_mem _ hn)) fun n hn => by
        rcases List.mem_append.mp hn with z | z
        · exact h2 n z
        · rw [List.mem_singleton.mp z]; exact hp
theorem v_picked {d : List Int} {size : Nat} (h : Dr d) (hl : d.length = 102) (hs : size ≤ 40) : ∃ ps : List Nat, lcC (fun x45 => some true) (fun x45 => (atI d ((13 : Int) + (x45 % (9 : Int)))).bind fun t46 => (mulO t46 (x45 + (1 : Int))).bind fun t47 => (modO t47 ((lst u N).length : Int)).bind fun t48 => some t48) ((List.range size).map fun (k : Nat) => (k : Int)) = some (iN ps) ∧ ps.length = size ∧ ∀ n ∈ ps, n < N := by
  let g : Nat → Nat := fun k => ((atI d ((13 : Int) + ((k : Int) % (9 : Int)))).getD 0).toNat * (k + 1) % N
  refine ⟨(List.range size).map g, ?_, by rw [List.length_map, List.length_range], fun a ha => ?_⟩
  · rw [lcC_rg (n := size) (f := fun (k : Nat) => (k : Int)) (g' := fun k => ((g k : Nat) : Int)) (by omega) fun k hk => ?_]
    · unfold iN
      rw [List.map_map]
      rfl
    · obtain ⟨x, x1, x2⟩ := dr_at h hl (show 13 + k % 9 < 102 by omega)
      have x1 : atI d ((13 : Int) + ((k : Int) % (9 : Int))) = some (x : Int) := by
        rw [show (13 : Int) + ((k : Int) % 9) = ((13 + k % 9 : Nat) : Int) by omega]
        exact x1
      have m1 : mulO (x : Int) ((k : Int) + 1) = some ((x * (k + 1) : Nat) : Int) := by
        unfold mulO mulC
        rw [if_pos (by rw [decide_eq_true (.inl (by omega)), Bool.true_or])]
        rw [Int.natCast_mul]
        rfl
      refine bs x1 (bs m1 (bs (a := ((x * (k + 1) % N : Nat) : Int)) ?_ ?_))
      · rw [F.ll]
        have := F.h1
        unfold modO
        rw [if_pos (by omega)]
        rfl
      · show some _ = some ((((atI d ((13 : Int) + ((k : Int) % (9 : Int)))).getD 0).toNat * (k + 1) % N : Nat) : Int)
        rw [x1]
        rfl
  · obtain ⟨k, _, rfl⟩ := List.mem_map.mp ha
    exact Nat.mod_lt _ F.h1
theorem v_small1 {d : List Int} {x size : Nat} (h : Dr d) (hl : d.length = 102) (hx : x < N) (hs : size ≤ 40) : f_w_small_J1 (u : Int) d (lst u N) (x : Int) (size : Int) = some true := by
  obtain ⟨ps, p1, p2, p3⟩ := v_picked F h hl hs
  have h1 := F.hu2
  have mg := v_merge F (x := (x : Int)) (all := iN ps) ps [] p3 (by show 0 + _ ≤ _; omega)
  have fo := v_fold F (x := (x : Int)) (due := ((DL.jn u ps : Nat) : Int)) (all := iN ps) ps [] p3 fun n hn => by cases hn
  rw [List.nil_append] at mg fo
  rw [jn_nil] at fo
  have j0 := F.ja (ns := []) (Nat.zero_le _) fun n hn => by cases hn
  rw [jn_nil] at j0
  have j1 := F.ja (ns := [x]) (by show 1 ≤ _; omega) fun n hn => by rw [List.mem_singleton.mp hn]; exact hx
  rw [jn_one F.hu] at j1
  have jr := F.ja (ns := ps.reverse) (by rw [List.length_reverse]; omega) fun n hn => p3 n (List.mem_reverse.mp hn)
  rw [jn_perm (List.reverse_perm ps)] at jr
  have rv : (iN ps).reverse = iN ps.reverse := by
    unfold iN
    rw [List.map_reverse]
  unfold f_w_small_J1
  refine bs (rng1O_n (n := size) (by omega)) (bs p1 (bs rfl (bs mg (bs (e_cut u _) (bs (F.idx p3) (bs (F.ja (by omega) p3) (bs (is_int rfl) (iF rfl ?_))))))))
  rw [rv]
  refine bs jr (bs (is_int rfl) (iF rfl (bs rfl (bs fo (bs (is_int rfl) (bs (a := false) (orF1 (bs j0 (bs (is_int rfl) (bs (a := false) (orF1 (bs j1 (bs (is_int rfl) rfl))) rfl)))) (iF rfl (bs (rng1O_n (n := u + 4) (by omega)) ?_))))))))
  rw [thenL_nx (v_times F hx)]
theorem v_small {d : List Int} (hL : f_w_listed (u : Int) (c : Int) = some (lst u N)) (h : Dr d) (hl : d.length = 102) : f_w_small (u : Int) (c : Int) d = some true := by
  obtain ⟨a, a1, _⟩ := dr_at h hl (show 10 < 102 by omega)
  obtain ⟨b, b1, _⟩ := dr_at h hl (show 11 < 102 by omega)
  obtain ⟨e, e1, _⟩ := dr_at h hl (show 12 < 102 by omega)
  have hx : a % N < N := Nat.mod_lt _ F.h1
  have q1 := F.h1
  have q2 := F.h2
  unfold f_w_small
  refine bs hL (bs a1 (bs (a := ((a % N : Nat) : Int)) ?_ ?_))
  · rw [F.ll]
    unfold modO
    rw [if_pos (by omega)]
    rfl
  rw [F.ll]
  refine bs (rng1O_n (n := N) (by omega)) ?_
  rw [thenL_nx (v_pairs F hx)]
  refine bs b1 (bs rfl (bs e1 ?_))
  by_cases z : (e : Int) % 8 = 3
  · exact iT (decide_eq_true z) (bs rfl (v_small1 F (size := 40) h hl hx (Nat.le_refl _)))
  · refine iF (decide_eq_false z) ?_
    have := v_small1 F (size := b % 9) h hl hx (by omega)
    rwa [show ((b % 9 : Nat) : Int) = (b : Int) % 9 by omega] at this
end
end K19
namespace K19
open PySem PySem.Spec PyProof.Rows L2 DL
def refusal (z : Str) : Ro := .inr ⟨"NotUsable", [("at", .int (-1)), ("word", .str z)]⟩
theorem call_inr {w : Str} {d : PyData} {x : Xc} (h : FX__law_ask [.str w, d] = some (.inr x)) : x_callX FX__law_ask [] (a_cons (x_var 0) (a_cons (x_var 1) a_nil)) [im (.str w), im d, none] = some (.inr (x, [im (.str w), im d, none])) := by
  have a : argsI (a_cons (x_var 0) (a_cons (x_var 1) a_nil)) [im (.str w), im d, none] = some ([.str w, d], [im (.str w), im d, none]) := rfl
  unfold x_callX
  rw [a]
  dsimp only
  rw [List.append_nil, h]
theorem call_inl {w : Str} {d v : PyData} (h : FX__law_ask [.str w, d] = some (.inl (.im v))) : x_callX FX__law_ask [] (a_cons (x_var 0) (a_cons (x_var 1) a_nil)) [im (.str w), im d, none] = some (.inl (.im v, [im (.str w), im d, none])) := by
  have a : argsI (a_cons (x_var 0) (a_cons (x_var 1) a_nil)) [im (.str w), im d, none] = some ([.str w, d], [im (.str w), im d, none]) := rfl
  unfold x_callX
  rw [a]
  dsimp only
  rw [List.append_nil, h]
theorem word_ref {w z : Str} {d : PyData} (h : FX__law_ask [.str w, d] = some (refusal z)) : f_w_word w d = some z := by
  refine chI_eq (fun _ _ h => by cases h; rfl) (t_fnI (enc := PyData.str) rfl ?_)
  show wS _ [im (.str w), im d, none] _
  have c := call_inr h
  have b : x_drop (x_callX FX__law_ask [] (a_cons (x_var 0) (a_cons (x_var 1) a_nil))) [im (.str w), im d, none] = some (.inr (⟨"NotUsable", [("at", .int (-1)), ("word", .str z)]⟩, [im (.str w), im d, none])) := by
    unfold x_drop
    rw [c]
  refine w_seq ⟨.rt (.im (.str z)) [im (.str w), im d, none], ?_, rfl⟩
  have t := x_try_yes (sub := tabF xtab "NotUsable") (i := 2) (g := fun k a dd => (s_seq (s_if (t_not (t_of (x_call F__law_is [] (a_cons (x_fld xok k a dd 2 "at") (a_cons (x_neg (x_c (.int 1))) a_nil)))))
      (s_ret (x_c (.str "at"))) s_nx) (s_seq (s_ret (x_fld xok k a dd 2 "word")) s_nx))) b (by rfl) rfl
    (fl := .rt (.im (.str z)) [im (.str w), im d, none]) (fun a dd fs => ⟨.rt (.im (.str z)) [im (.str w), im d, some (.ob (.xc a dd fs [("at", .int (-1)), ("word", .str z)]))], ?_, rfl⟩)
  · unfold noX
    rw [t]
  · have f1 : x_fld xok "NotUsable" a dd 2 "word" [im (.str w), im d, some (.ob (.xc a dd fs [("at", .int (-1)), ("word", .str z)]))] = some (.im (.str z), [im (.str w), im d, some (.ob (.xc a dd fs [("at", .int (-1)), ("word", .str z)]))]) := by
      unfold x_fld
      rw [if_pos (by rfl)]
      show (if a = a ∧ dd = dd then _ else _) = _
      rw [if_pos ⟨rfl, rfl⟩]
      rfl
    have f2 : x_fld xok "NotUsable" a dd 2 "at" [im (.str w), im d, some (.ob (.xc a dd fs [("at", .int (-1)), ("word", .str z)]))] = some (.im (.int (-1)), [im (.str w), im d, some (.ob (.xc a dd fs [("at", .int (-1)), ("word", .str z)]))]) := by
      unfold x_fld
      rw [if_pos (by rfl)]
      show (if a = a ∧ dd = dd then _ else _) = _
      rw [if_pos ⟨rfl, rfl⟩]
      rfl
    have g : wS (s_seq (s_if (t_not (t_of (x_call F__law_is [] (a_cons (x_fld xok "NotUsable" a dd 2 "at") (a_cons (x_neg (x_c (.int 1))) a_nil)))))
        (s_ret (x_c (.str "at"))) s_nx) (s_seq (s_ret (x_fld xok "NotUsable" a dd 2 "word")) s_nx)) [im (.str w), im d, some (.ob (.xc a dd fs [("at", .int (-1)), ("word", .str z)]))] (fun fl => fl = .rt (.im (.str z)) [im (.str w), im d, some (.ob (.xc a dd fs [("at", .int (-1)), ("word", .str z)]))]) :=
      w_seq (w_ifF (tnot (bang (callI (d := .bool true) (aI f2 (aI (negI cI) a0)) rfl (k__law_is (is_int (a := -1) (b := -1) rfl))))) (w_nx (w_seq (w_ret f1 rfl))))
    obtain ⟨fl, g1, rfl⟩ := g
    exact g1
theorem word_let {w : Str} {d v : PyData} (h : FX__law_ask [.str w, d] = some (.inl (.im v))) : f_w_word w d = some "let" := by
  refine chI_eq (fun _ _ h => by cases h; rfl) (t_fnI (enc := PyData.str) rfl ?_)
  show wS _ [im (.str w), im d, none] _
  have c := call_inl h
  have b : x_drop (x_callX FX__law_ask [] (a_cons (x_var 0) (a_cons (x_var 1) a_nil))) [im (.str w), im d, none] = some (.inl (.nx [im (.str w), im d, none])) := by
    unfold x_drop
    rw [c]
  refine w_seq ⟨.nx [im (.str w), im d, none], ?_, ?_⟩
  · unfold noX
    rw [x_try_no b]
  · show wS _ [im (.str w), im d, none] _
    exact w_seq (w_ret cI rfl)
theorem refused_row {u : Int} {bad : List (Str × PyData × Str)} (h : bad.map (fun r => FX__law_ask [.str r.1, r.2.1]) = bad.map fun r => some (refusal r.2.2)) (hs : bad.map (fun r => bD (p_ne (.str r.2.2) (.str r.2.2))) = bad.map fun _ => some false) :
    ∀ x ∈ bad, f_w_refusals_L1 u bad x = some (.nx ()) := fun x hx => by
  unfold f_w_refusals_L1
  exact bs (word_ref (List.map_inj_left.mp h x hx)) (bs (List.map_inj_left.mp hs x hx) (iF rfl rfl))
theorem let_row {good : List (Str × PyData × Int)} (h : good.map (fun r => FX__law_ask [.str r.1, r.2.1]) = good.map fun r => some (.inl (.im (.int r.2.2)))) (hs : good.map (fun r => F__law_ask [.str r.1, r.2.1]) = good.map fun r => some (.im (.int r.2.2))) :
    ∀ x ∈ good, f_w_refusals_L2 good x = some (.nx ()) := fun x hx => by
  have e : bD (p_ne (.str ("let" : Str)) (.str ("let" : Str))) = some false := by kernel_rfl
  have a : f_w_ask x.1 x.2.1 = some (.int x.2.2) := chI_eq (fun _ _ h => h) (List.map_inj_left.mp hs x hx)
  unfold f_w_refusals_L2
  exact bs (word_let (List.map_inj_left.mp h x hx)) (bs e (bs (a := false) (orF1 (bs a (bs (is_int rfl) rfl))) (iF rfl rfl)))
theorem ref_0_1 : f_w_refusals (nn ()) 1 = some true := by
  unfold f_w_refusals
  refine bs rfl (bs rfl (bs rfl (bs rfl (bs rfl (bs rfl (bs rfl (bs rfl (bs rfl (bs rfl (bs rfl (bs rfl (thenA (refused_row (by kernel_rfl) (by kernel_rfl)) (bs rfl (bs rfl (bs rfl (thenA (let_row (by kernel_rfl) (by kernel_rfl)) rfl))))))))))))))))
theorem ref_0_2 : f_w_refusals (nn ()) 2 = some true := by
  unfold f_w_refusals
  refine bs rfl (bs rfl (bs rfl (bs rfl (bs rfl (bs rfl (bs rfl (bs rfl (bs rfl (bs rfl (bs rfl (bs rfl (thenA (refused_row (by kernel_rfl) (by kernel_rfl)) (bs rfl (bs rfl (bs rfl (thenA (let_row (by kernel_rfl) (by kernel_rfl)) rfl))))))))))))))))
theorem ref_0_3 : f_w_refusals (nn ()) 3 = some true := by
  unfold f_w_refusals
  refine bs rfl (bs rfl (bs rfl (bs rfl (bs rfl (bs rfl (bs rfl (bs rfl (bs rfl (bs rfl (bs rfl (bs rfl (thenA (refused_row (by kernel_rfl) (by kernel_rfl)) (bs rfl (bs rfl (bs rfl (thenA (let_row (by kernel_rfl) (by kernel_rfl)) rfl))))))))))))))))
theorem ref_0_4 : f_w_refusals (nn ()) 4 = some true := by
  unfold f_w_refusals
  refine bs rfl (bs rfl (bs rfl (bs rfl (bs rfl (bs rfl (bs rfl (bs rfl (bs rfl (bs rfl (bs rfl (bs rfl (thenA (refused_row (by kernel_rfl) (by kernel_rfl)) (bs rfl (bs rfl (bs rfl (thenA (let_row (by kernel_rfl) (by kernel_rfl)) rfl))))))))))))))))
theorem ref_0_5 : f_w_refusals (nn ()) 5 = some true := by
  unfold f_w_refusals
  refine bs rfl (bs rfl (bs rfl (bs rfl (bs rfl (bs rfl (bs rfl (bs rfl (bs rfl (bs rfl (bs rfl (bs rfl (thenA (refused_row (by kernel_rfl) (by kernel_rfl)) (bs rfl (bs rfl (bs rfl (thenA (let_row (by kernel_rfl) (by kernel_rfl)) rfl))))))))))))))))
theorem ref_0_6 : f_w_refusals (nn ()) 6 = some true := by
  unfold f_w_refusals
  refine bs rfl (bs rfl (bs rfl (bs rfl (bs rfl (bs rfl (bs rfl (bs rfl (bs rfl (bs rfl (bs rfl (bs rfl (thenA (refused_row (by kernel_rfl) (by kernel_rfl)) (bs rfl (bs rfl (bs rfl (thenA (let_row (by kernel_rfl) (by kernel_rfl)) rfl))))))))))))))))
theorem ref_0_7 : f_w_refusals (nn ()) 7 = some true := by
  unfold f_w_refusals
  refine bs rfl (bs rfl (bs rfl (bs rfl (bs rfl (bs rfl (bs rfl (bs rfl (bs rfl (bs rfl (bs rfl (bs rfl (thenA (refused_row (by kernel_rfl) (by kernel_rfl)) (bs rfl (bs rfl (bs rfl (thenA (let_row (by kernel_rfl) (by kernel_rfl)) rfl))))))))))))))))
theorem ref_1_1 : f_w_refusals (PyData.str ("3" : Str)) 1 = some true := by
  unfold f_w_refusals
  refine bs rfl (bs rfl (bs rfl (bs rfl (bs rfl (bs rfl (bs rfl (bs rfl (bs rfl (bs rfl (bs rfl (bs rfl (thenA (refused_row (by kernel_rfl) (by kernel_rfl)) (bs rfl (bs rfl (bs rfl (thenA (let_row (by kernel_rfl) (by kernel_rfl)) rfl))))))))))))))))
theorem ref_1_2 : f_w_refusals (PyData.str ("3" : Str)) 2 = some true := by
  unfold f_w_refusals
  refine bs rfl (bs rfl (bs rfl (bs rfl (bs rfl (bs rfl (bs rfl (bs rfl (bs rfl (bs rfl (bs rfl (bs rfl (thenA (refused_row (by kernel_rfl) (by kernel_rfl)) (bs rfl (bs rfl (bs rfl (thenA (let_row (by kernel_rfl) (by kernel_rfl)) rfl))))))))))))))))
theorem ref_1_3 : f_w_refusals (PyData.str ("3" : Str)) 3 = some true := by
  unfold f_w_refusals
  refine bs rfl (bs rfl (bs rfl (bs rfl (bs rfl (bs rfl (bs rfl (bs rfl (bs rfl (bs rfl (bs rfl (bs rfl (thenA (refused_row (by kernel_rfl) (by kernel_rfl)) (bs rfl (bs rfl (bs rfl (thenA (let_row (by kernel_rfl) (by kernel_rfl)) rfl))))))))))))))))
theorem ref_1_4 : f_w_refusals (PyData.str ("3" : Str)) 4 = some true := by
  unfold f_w_refusals
  refine bs rfl (bs rfl (bs rfl (bs rfl (bs rfl (bs rfl (bs rfl (bs rfl (bs rfl (bs rfl (bs rfl (bs rfl (thenA (refused_row (by kernel_rfl) (by kernel_rfl)) (bs rfl (bs rfl (bs rfl (thenA (let_row (by kernel_rfl) (by kernel_rfl)) rfl))))))))))))))))
theorem ref_1_5 : f_w_refusals (PyData.str ("3" : Str)) 5 = some true := by
  unfold f_w_refusals
  refine bs rfl (bs rfl (bs rfl (bs rfl (bs rfl (bs rfl (bs rfl (bs rfl (bs rfl (bs rfl (bs rfl (bs rfl (thenA (refused_row (by kernel_rfl) (by kernel_rfl)) (bs rfl (bs rfl (bs rfl (thenA (let_row (by kernel_rfl) (by kernel_rfl)) rfl))))))))))))))))
theorem ref_1_6 : f_w_refusals (PyData.str ("3" : Str)) 6 = some true := by
  unfold f_w_refusals
  refine bs rfl (bs rfl (bs rfl (bs rfl (bs rfl (bs rfl (bs rfl (bs rfl (bs rfl (bs rfl (bs rfl (bs rfl (thenA (refused_row (by kernel_rfl) (by kernel_rfl)) (bs rfl (bs rfl (bs rfl (thenA (let_row (by kernel_rfl) (by kernel_rfl)) rfl))))))))))))))))
theorem ref_1_7 : f_w_refusals (PyData.str ("3" : Str)) 7 = some true := by
  unfold f_w_refusals
  refine bs rfl (bs rfl (bs rfl (bs rfl (bs rfl (bs rfl (bs rfl (bs rfl (bs rfl (bs rfl (bs rfl (bs rfl (thenA (refused_row (by kernel_rfl) (by kernel_rfl)) (bs rfl (bs rfl (bs rfl (thenA (let_row (by kernel_rfl) (by kernel_rfl)) rfl))))))))))))))))
theorem ref_2_1 : f_w_refusals (ls PyData.int []) 1 = some true := by
  unfold f_w_refusals
  refine bs rfl (bs rfl (bs rfl (bs rfl (bs rfl (bs rfl (bs rfl (bs rfl (bs rfl (bs rfl (bs rfl (bs rfl (thenA (refused_row (by kernel_rfl) (by kernel_rfl)) (bs rfl (bs rfl (bs rfl (thenA (let_row (by kernel_rfl) (by kernel_rfl)) rfl))))))))))))))))
theorem ref_2_2 : f_w_refusals (ls PyData.int []) 2 = some true := by
  unfold f_w_refusals
  refine bs rfl (bs rfl (bs rfl (bs rfl (bs rfl (bs rfl (bs rfl (bs rfl (bs rfl (bs rfl (bs rfl (bs rfl (thenA (refused_row (by kernel_rfl) (by kernel_rfl)) (bs rfl (bs rfl (bs rfl (thenA (let_row (by kernel_rfl) (by kernel_rfl)) rfl))))))))))))))))
theorem ref_2_3 : f_w_refusals (ls PyData.int []) 3 = some true := by
  unfold f_w_refusals
  refine bs rfl (bs rfl (bs rfl (bs rfl (bs rfl (bs rfl (bs rfl (bs rfl (bs rfl (bs rfl (bs rfl (bs rfl (thenA (refused_row (by kernel_rfl) (by kernel_rfl)) (bs rfl (bs rfl (bs rfl (thenA (let_row (by kernel_rfl) (by kernel_rfl)) rfl))))))))))))))))
theorem ref_2_4 : f_w_refusals (ls PyData.int []) 4 = some true := by
  unfold f_w_refusals
  refine bs rfl (bs rfl (bs rfl (bs rfl (bs rfl (bs rfl (bs rfl (bs rfl (bs rfl (bs rfl (bs rfl (bs rfl (thenA (refused_row (by kernel_rfl) (by kernel_rfl)) (bs rfl (bs rfl (bs rfl (thenA (let_row (by kernel_rfl) (by kernel_rfl)) rfl))))))))))))))))
theorem ref_2_5 : f_w_refusals (ls PyData.int []) 5 = some true := by
  unfold f_w_refusals
  refine bs rfl (bs rfl (bs rfl (bs rfl (bs rfl (bs rfl (bs rfl (bs rfl (bs rfl (bs rfl (bs rfl (bs rfl (thenA (refused_row (by kernel_rfl) (by kernel_rfl)) (bs rfl (bs rfl (bs rfl (thenA (let_row (by kernel_rfl) (by kernel_rfl)) rfl))))))))))))))))
theorem ref_2_6 : f_w_refusals (ls PyData.int []) 6 = some true := by
  unfold f_w_refusals
  refine bs rfl (bs rfl (bs rfl (bs rfl (bs rfl (bs rfl (bs rfl (bs rfl (bs rfl (bs rfl (bs rfl (bs rfl (thenA (refused_row (by kernel_rfl) (by kernel_rfl)) (bs rfl (bs rfl (bs rfl (thenA (let_row (by kernel_rfl) (by kernel_rfl)) rfl))))))))))))))))
theorem ref_2_7 : f_w_refusals (ls PyData.int []) 7 = some true := by
  unfold f_w_refusals
  refine bs rfl (bs rfl (bs rfl (bs rfl (bs rfl (bs rfl (bs rfl (bs rfl (bs rfl (bs rfl (bs rfl (bs rfl (thenA (refused_row (by kernel_rfl) (by kernel_rfl)) (bs rfl (bs rfl (bs rfl (thenA (let_row (by kernel_rfl) (by kernel_rfl)) rfl))))))))))))))))
theorem ref_3_1 : f_w_refusals (PyData.int (-1)) 1 = some true := by
  unfold f_w_refusals
  refine bs rfl (bs rfl (bs rfl (bs rfl (bs rfl (bs rfl (bs rfl (bs rfl (bs rfl (bs rfl (bs rfl (bs rfl (thenA (refused_row (by kernel_rfl) (by kernel_rfl)) (bs rfl (bs rfl (bs rfl (thenA (let_row (by kernel_rfl) (by kernel_rfl)) rfl))))))))))))))))
theorem ref_3_2 : f_w_refusals (PyData.int (-1)) 2 = some true := by
  unfold f_w_refusals
  refine bs rfl (bs rfl (bs rfl (bs rfl (bs rfl (bs rfl (bs rfl (bs rfl (bs rfl (bs rfl (bs rfl (bs rfl (thenA (refused_row (by kernel_rfl) (by kernel_rfl)) (bs rfl (bs rfl (bs rfl (thenA (let_row (by kernel_rfl) (by kernel_rfl)) rfl))))))))))))))))
theorem ref_3_3 : f_w_refusals (PyData.int (-1)) 3 = some true := by
  unfold f_w_refusals
  refine bs rfl (bs rfl (bs rfl (bs rfl (bs rfl (bs rfl (bs rfl (bs rfl (bs rfl (bs rfl (bs rfl (bs rfl (thenA (refused_row (by kernel_rfl) (by kernel_rfl)) (bs rfl (bs rfl (bs rfl (thenA (let_row (by kernel_rfl) (by kernel_rfl)) rfl))))))))))))))))
theorem ref_3_4 : f_w_refusals (PyData.int (-1)) 4 = some true := by
  unfold f_w_refusals
  refine bs rfl (bs rfl (bs rfl (bs rfl (bs rfl (bs rfl (bs rfl (bs rfl (bs rfl (bs rfl (bs rfl (bs rfl (thenA (refused_row (by kernel_rfl) (by kernel_rfl)) (bs rfl (bs rfl (bs rfl (thenA (let_row (by kernel_rfl) (by kernel_rfl)) rfl))))))))))))))))
theorem ref_3_5 : f_w_refusals (PyData.int (-1)) 5 = some true := by
  unfold f_w_refusals
  refine bs rfl (bs rfl (bs rfl (bs rfl (bs rfl (bs rfl (bs rfl (bs rfl (bs rfl (bs rfl (bs rfl (bs rfl (thenA (refused_row (by kernel_rfl) (by kernel_rfl)) (bs rfl (bs rfl (bs rfl (thenA (let_row (by kernel_rfl) (by kernel_rfl)) rfl))))))))))))))))
theorem ref_3_6 : f_w_refusals (PyData.int (-1)) 6 = some true := by
  unfold f_w_refusals
  refine bs rfl (bs rfl (bs rfl (bs rfl (bs rfl (bs rfl (bs rfl (bs rfl (bs rfl (bs rfl (bs rfl (bs rfl (thenA (refused_row (by kernel_rfl) (by kernel_rfl)) (bs rfl (bs rfl (bs rfl (thenA (let_row (by kernel_rfl) (by kernel_rfl)) rfl))))))))))))))))
theorem ref_3_7 : f_w_refusals (PyData.int (-1)) 7 = some true := by
  unfold f_w_refusals
  refine bs rfl (bs rfl (bs rfl (bs rfl (bs rfl (bs rfl (bs rfl (bs rfl (bs rfl (bs rfl (bs rfl (bs rfl (thenA (refused_row (by kernel_rfl) (by kernel_rfl)) (bs rfl (bs rfl (bs rfl (thenA (let_row (by kernel_rfl) (by kernel_rfl)) rfl))))))))))))))))
theorem ref_4_1 : f_w_refusals (p1 PyData.int 2) 1 = some true := by
  unfold f_w_refusals
  refine bs rfl (bs rfl (bs rfl (bs rfl (bs rfl (bs rfl (bs rfl (bs rfl (bs rfl (bs rfl (bs rfl (bs rfl (thenA (refused_row (by kernel_rfl) (by kernel_rfl)) (bs rfl (bs rfl (bs rfl (thenA (let_row (by kernel_rfl) (by kernel_rfl)) rfl))))))))))))))))
theorem ref_4_2 : f_w_refusals (p1 PyData.int 2) 2 = some true := by
  unfold f_w_refusals
  refine bs rfl (bs rfl (bs rfl (bs rfl (bs rfl (bs rfl (bs rfl (bs rfl (bs rfl (bs rfl (bs rfl (bs rfl (thenA (refused_row (by kernel_rfl) (by kernel_rfl)) (bs rfl (bs rfl (bs rfl (thenA (let_row (by kernel_rfl) (by kernel_rfl)) rfl))))))))))))))))
theorem ref_4_3 : f_w_refusals (p1 PyData.int 2) 3 = some true := by
  unfold f_w_refusals
  refine bs rfl (bs rfl (bs rfl (bs rfl (bs rfl (bs rfl (bs rfl (bs rfl (bs rfl (bs rfl (bs rfl (bs rfl (thenA (refused_row (by kernel_rfl) (by kernel_rfl)) (bs rfl (bs rfl (bs rfl (thenA (let_row (by kernel_rfl) (by kernel_rfl)) rfl))))))))))))))))
theorem ref_4_4 : f_w_refusals (p1 PyData.int 2) 4 = some true := by
  unfold f_w_refusals
  refine bs rfl (bs rfl (bs rfl (bs rfl (bs rfl (bs rfl (bs rfl (bs rfl (bs rfl (bs rfl (bs rfl (bs rfl (thenA (refused_row (by kernel_rfl) (by kernel_rfl)) (bs rfl (bs rfl (bs rfl (thenA (let_row (by kernel_rfl) (by kernel_rfl)) rfl))))))))))))))))
theorem ref_4_5 : f_w_refusals (p1 PyData.int 2) 5 = some true := by
  unfold f_w_refusals
  refine bs rfl (bs rfl (bs rfl (bs rfl (bs rfl (bs rfl (bs rfl (bs rfl (bs rfl (bs rfl (bs rfl (bs rfl (thenA (refused_row (by kernel_rfl) (by kernel_rfl)) (bs rfl (bs rfl (bs rfl (thenA (let_row (by kernel_rfl) (by kernel_rfl)) rfl))))))))))))))))
theorem ref_4_6 : f_w_refusals (p1 PyData.int 2) 6 = some true := by
  unfold f_w_refusals
  refine bs rfl (bs rfl (bs rfl (bs rfl (bs rfl (bs rfl (bs rfl (bs rfl (bs rfl (bs rfl (bs rfl (bs rfl (thenA (refused_row (by kernel_rfl) (by kernel_rfl)) (bs rfl (bs rfl (bs rfl (thenA (let_row (by kernel_rfl) (by kernel_rfl)) rfl))))))))))))))))
theorem ref_4_7 : f_w_refusals (p1 PyData.int 2) 7 = some true := by
  unfold f_w_refusals
  refine bs rfl (bs rfl (bs rfl (bs rfl (bs rfl (bs rfl (bs rfl (bs rfl (bs rfl (bs rfl (bs rfl (bs rfl (thenA (refused_row (by kernel_rfl) (by kernel_rfl)) (bs rfl (bs rfl (bs rfl (thenA (let_row (by kernel_rfl) (by kernel_rfl)) rfl))))))))))))))))
theorem ref_5_1 : f_w_refusals (PyData.bool false) 1 = some true := by
  unfold f_w_refusals
  refine bs rfl (bs rfl (bs rfl (bs rfl (bs rfl (bs rfl (bs rfl (bs rfl (bs rfl (bs rfl (bs rfl (bs rfl (thenA (refused_row (by kernel_rfl) (by kernel_rfl)) (bs rfl (bs rfl (bs rfl (thenA (let_row (by kernel_rfl) (by kernel_rfl)) rfl))))))))))))))))
theorem ref_5_2 : f_w_refusals (PyData.bool false) 2 = some true := by
  unfold f_w_refusals
  refine bs rfl (bs rfl (bs rfl (bs rfl (bs rfl (bs rfl (bs rfl (bs rfl (bs rfl (bs rfl (bs rfl (bs rfl (thenA (refused_row (by kernel_rfl) (by kernel_rfl)) (bs rfl (bs rfl (bs rfl (thenA (let_row (by kernel_rfl) (by kernel_rfl)) rfl))))))))))))))))
theorem ref_5_3 : f_w_refusals (PyData.bool false) 3 = some true := by
  unfold f_w_refusals
  refine bs rfl (bs rfl (bs rfl (bs rfl (bs rfl (bs rfl (bs rfl (bs rfl (bs rfl (bs rfl (bs rfl (bs rfl (thenA (refused_row (by kernel_rfl) (by kernel_rfl)) (bs rfl (bs rfl (bs rfl (thenA (let_row (by kernel_rfl) (by kernel_rfl)) rfl))))))))))))))))
theorem ref_5_4 : f_w_refusals (PyData.bool false) 4 = some true := by
  unfold f_w_refusals
  refine bs rfl (bs rfl (bs rfl (bs rfl (bs rfl (bs rfl (bs rfl (bs rfl (bs rfl (bs rfl (bs rfl (bs rfl (thenA (refused_row (by kernel_rfl) (by kernel_rfl)) (bs rfl (bs rfl (bs rfl (thenA (let_row (by kernel_rfl) (by kernel_rfl)) rfl))))))))))))))))
theorem ref_5_5 : f_w_refusals (PyData.bool false) 5 = some true := by
  unfold f_w_refusals
  refine bs rfl (bs rfl (bs rfl (bs rfl (bs rfl (bs rfl (bs rfl (bs rfl (bs rfl (bs rfl (bs rfl (bs rfl (thenA (refused_row (by kernel_rfl) (by kernel_rfl)) (bs rfl (bs rfl (bs rfl (thenA (let_row (by kernel_rfl) (by kernel_rfl)) rfl))))))))))))))))
theorem ref_5_6 : f_w_refusals (PyData.bool false) 6 = some true := by
  unfold f_w_refusals
  refine bs rfl (bs rfl (bs rfl (bs rfl (bs rfl (bs rfl (bs rfl (bs rfl (bs rfl (bs rfl (bs rfl (bs rfl (thenA (refused_row (by kernel_rfl) (by kernel_rfl)) (bs rfl (bs rfl (bs rfl (thenA (let_row (by kernel_rfl) (by kernel_rfl)) rfl))))))))))))))))
theorem ref_5_7 : f_w_refusals (PyData.bool false) 7 = some true := by
  unfold f_w_refusals
  refine bs rfl (bs rfl (bs rfl (bs rfl (bs rfl (bs rfl (bs rfl (bs rfl (bs rfl (bs rfl (bs rfl (bs rfl (thenA (refused_row (by kernel_rfl) (by kernel_rfl)) (bs rfl (bs rfl (bs rfl (thenA (let_row (by kernel_rfl) (by kernel_rfl)) rfl))))))))))))))))
theorem ref_6_1 : f_w_refusals (PyData.bool true) 1 = some true := by
  unfold f_w_refusals
  refine bs rfl (bs rfl (bs rfl (bs rfl (bs rfl (bs rfl (bs rfl (bs rfl (bs rfl (bs rfl (bs rfl (bs rfl (thenA (refused_row (by kernel_rfl) (by kernel_rfl)) (bs rfl (bs rfl (bs rfl (thenA (let_row (by kernel_rfl) (by kernel_rfl)) rfl))))))))))))))))
theorem ref_6_2 : f_w_refusals (PyData.bool true) 2 = some true := by
  unfold f_w_refusals
  refine bs rfl (bs rfl (bs rfl (bs rfl (bs rfl (bs rfl (bs rfl (bs rfl (bs rfl (bs rfl (bs rfl (bs rfl (thenA (refused_row (by kernel_rfl) (by kernel_rfl)) (bs rfl (bs rfl (bs rfl (thenA (let_row (by kernel_rfl) (by kernel_rfl)) rfl))))))))))))))))
theorem ref_6_3 : f_w_refusals (PyData.bool true) 3 = some true := by
  unfold f_w_refusals
  refine bs rfl (bs rfl (bs rfl (bs rfl (bs rfl (bs rfl (bs rfl (bs rfl (bs rfl (bs rfl (bs rfl (bs rfl (thenA (refused_row (by kernel_rfl) (by kernel_rfl)) (bs rfl (bs rfl (bs rfl (thenA (let_row (by kernel_rfl) (by kernel_rfl)) rfl))))))))))))))))
theorem ref_6_4 : f_w_refusals (PyData.bool true) 4 = some true := by
  unfold f_w_refusals
  refine bs rfl (bs rfl (bs rfl (bs rfl (bs rfl (bs rfl (bs rfl (bs rfl (bs rfl (bs rfl (bs rfl (bs rfl (thenA (refused_row (by kernel_rfl) (by kernel_rfl)) (bs rfl (bs rfl (bs rfl (thenA (let_row (by kernel_rfl) (by kernel_rfl)) rfl))))))))))))))))
theorem ref_6_5 : f_w_refusals (PyData.bool true) 5 = some true := by
  unfold f_w_refusals
  refine bs rfl (bs rfl (bs rfl (bs rfl (bs rfl (bs rfl (bs rfl (bs rfl (bs rfl (bs rfl (bs rfl (bs rfl (thenA (refused_row (by kernel_rfl) (by kernel_rfl)) (bs rfl (bs rfl (bs rfl (thenA (let_row (by kernel_rfl) (by kernel_rfl)) rfl))))))))))))))))
theorem ref_6_6 : f_w_refusals (PyData.bool true) 6 = some true := by
  unfold f_w_refusals
  refine bs rfl (bs rfl (bs rfl (bs rfl (bs rfl (bs rfl (bs rfl (bs rfl (bs rfl (bs rfl (bs rfl (bs rfl (thenA (refused_row (by kernel_rfl) (by kernel_rfl)) (bs rfl (bs rfl (bs rfl (thenA (let_row (by kernel_rfl) (by kernel_rfl)) rfl))))))))))))))))
theorem ref_6_7 : f_w_refusals (PyData.bool true) 7 = some true := by
  unfold f_w_refusals
  refine bs rfl (bs rfl (bs rfl (bs rfl (bs rfl (bs rfl (bs rfl (bs rfl (bs rfl (bs rfl (bs rfl (bs rfl (thenA (refused_row (by kernel_rfl) (by kernel_rfl)) (bs rfl (bs rfl (bs rfl (thenA (let_row (by kernel_rfl) (by kernel_rfl)) rfl))))))))))))))))
theorem ref_7_1 : f_w_refusals (PyData.int (-10000000000000000000000)) 1 = some true := by
  unfold f_w_refusals
  refine bs rfl (bs rfl (bs rfl (bs rfl (bs rfl (bs rfl (bs rfl (bs rfl (bs rfl (bs rfl (bs rfl (bs rfl (thenA (refused_row (by kernel_rfl) (by kernel_rfl)) (bs rfl (bs rfl (bs rfl (thenA (let_row (by kernel_rfl) (by kernel_rfl)) rfl))))))))))))))))
theorem ref_7_2 : f_w_refusals (PyData.int (-10000000000000000000000)) 2 = some true := by
  unfold f_w_refusals
  refine bs rfl (bs rfl (bs rfl (bs rfl (bs rfl (bs rfl (bs rfl (bs rfl (bs rfl (bs rfl (bs rfl (bs rfl (thenA (refused_row (by kernel_rfl) (by kernel_rfl)) (bs rfl (bs rfl (bs rfl (thenA (let_row (by kernel_rfl) (by kernel_rfl)) rfl))))))))))))))))
theorem ref_7_3 : f_w_refusals (PyData.int (-10000000000000000000000)) 3 = some true := by
  unfold f_w_refusals
  refine bs rfl (bs rfl (bs rfl (bs rfl (bs rfl (bs rfl (bs rfl (bs rfl (bs rfl (bs rfl (bs rfl (bs rfl (thenA (refused_row (by kernel_rfl) (by kernel_rfl)) (bs rfl (bs rfl (bs rfl (thenA (let_row (by kernel_rfl) (by kernel_rfl)) rfl))))))))))))))))
theorem ref_7_4 : f_w_refusals (PyData.int (-10000000000000000000000)) 4 = some true := by
  unfold f_w_refusals
  refine bs rfl (bs rfl (bs rfl (bs rfl (bs rfl (bs rfl (bs rfl (bs rfl (bs rfl (bs rfl (bs rfl (bs rfl (thenA (refused_row (by kernel_rfl) (by kernel_rfl)) (bs rfl (bs rfl (bs rfl (thenA (let_row (by kernel_rfl) (by kernel_rfl)) rfl))))))))))))))))
theorem ref_7_5 : f_w_refusals (PyData.int (-10000000000000000000000)) 5 = some true := by
  unfold f_w_refusals
  refine bs rfl (bs rfl (bs rfl (bs rfl (bs rfl (bs rfl (bs rfl (bs rfl (bs rfl (bs rfl (bs rfl (bs rfl (thenA (refused_row (by kernel_rfl) (by kernel_rfl)) (bs rfl (bs rfl (bs rfl (thenA (let_row (by kernel_rfl) (by kernel_rfl)) rfl))))))))))))))))
theorem ref_7_6 : f_w_refusals (PyData.int (-10000000000000000000000)) 6 = some true := by
  unfold f_w_refusals
  refine bs rfl (bs rfl (bs rfl (bs rfl (bs rfl (bs rfl (bs rfl (bs rfl (bs rfl (bs rfl (bs rfl (bs rfl (thenA (refused_row (by kernel_rfl) (by kernel_rfl)) (bs rfl (bs rfl (bs rfl (thenA (let_row (by kernel_rfl) (by kernel_rfl)) rfl))))))))))))))))
theorem ref_7_7 : f_w_refusals (PyData.int (-10000000000000000000000)) 7 = some true := by
  unfold f_w_refusals
  refine bs rfl (bs rfl (bs rfl (bs rfl (bs rfl (bs rfl (bs rfl (bs rfl (bs rfl (bs rfl (bs rfl (bs rfl (thenA (refused_row (by kernel_rfl) (by kernel_rfl)) (bs rfl (bs rfl (bs rfl (thenA (let_row (by kernel_rfl) (by kernel_rfl)) rfl))))))))))))))))
theorem e_listed {u c : Int} {is : List Int} {X T : List (List Int)} {R : List (List Nat)} (h0 : rng1O u = some is) (h : forS (fun x_1 (s_ : (List (List Int)) × (List (List Int))) => f_w_listed_L1 u c x_1 s_.1 s_.2) is ([[]], [[]]) = some (X, T)) (h1 : (R.map iN).isPerm T = true) (h2 : (decide ((R.map iN).Pairwise (· ≤ ·))) = true) : f_w_listed u c = some (R.map iN) := by
  unfold f_w_listed
  refine bs rfl (bs rfl (bs h0 (bs h ?_)))
  exact congrArg some (List.Perm.eq_of_pairwise (le := (· ≤ ·)) (fun a b _ _ h1 h2 => List.le_antisymm h1 h2) (upT_pw T) (of_decide_eq_true h2) ((upT_perm T).trans (List.isPerm_iff.mp h1).symm))
def fwB : Nat → List Nat → Bool
  | _, [] => true
  | x, y :: ys => decide (1 ≤ y) && (decide (y ≤ x) && fwB y ys)
theorem fwB_ok : ∀ {x : Nat} {m : List Nat}, fwB x m = true → Fw x m
  | _, [], _ => True.intro
  | x, y :: ys, h => by
    have h : (decide (1 ≤ y) && (decide (y ≤ x) && fwB y ys)) = true := h
    rw [Bool.and_eq_true, Bool.and_eq_true, decide_eq_true_eq, decide_eq_true_eq] at h
    exact ⟨h.1, h.2.1, fwB_ok h.2.2⟩
theorem lst_of {u c N : Nat} {R : List (List Nat)} (hu : 1 ≤ u) (hN : R.length = N) (h : ((List.range N).all fun k => fwB c (R.getD k []) && (decide ((R.getD k []).length ≤ u) && decide (rk u (R.getD k []) = k))) = true) : R.map iN = lst u N := by
  simp only [Bool.and_eq_true, decide_eq_true_eq, List.all_eq_true, List.mem_range] at h
  refine List.ext_getElem (by unfold lst; rw [List.length_map, List.length_map, List.length_range, hN]) fun k h1 h2 => ?_
  rw [List.length_map, hN] at h1
  obtain ⟨a1, a2, a3⟩ := h k h1
  have e : R.getD k [] = R[k]'(by omega) := by
    rw [List.getD_eq_getElem?_getD, List.getElem?_eq_getElem (by omega)]
    rfl
  rw [e] at a1 a2 a3
  have z := rowN_of hu (fwB_ok a1) a2
  rw [a3] at z
  have e2 : (lst u N)[k] = iN (rowN u k) := by
    have q : (lst u N)[k]? = some (iN (rowN u k)) := by
      unfold lst
      rw [List.getElem?_map, List.getElem?_range h1]
      rfl
    rw [List.getElem?_eq_getElem h2] at q
    exact Option.some.inj q
  rw [List.getElem_map, e2, z]
theorem small_0 {d : List Int} (h : Dr d) (hl : d.length = 102) : f_w_small 1 12 d = some true := v_small (u := 1) (c := 12) (N := 13) ⟨by decide, by decide, by decide, by kernel_rfl, by decide, by decide⟩ ((e_listed (is := [0]) (X := [[1], [2], [3], [4], [5], [6], [7], [8], [9], [10], [11], [12]]) (T := [[], [1], [2], [3], [4], [5], [6], [7], [8], [9], [10], [11], [12]]) (R := [[], [1], [2], [3], [4], [5], [6], [7], [8], [9], [10], [11], [12]]) (by kernel_rfl) (by kernel_rfl) (by kernel_rfl) (by kernel_rfl)).trans (congrArg some (lst_of (c := 12) (by decide) (by kernel_rfl) (by kernel_rfl)))) h hl
theorem small_1 {d : List Int} (h : Dr d) (hl : d.length = 102) : f_w_small 2 5 d = some true := v_small (u := 2) (c := 5) (N := 21) ⟨by decide, by decide, by decide, by kernel_rfl, by decide, by decide⟩ ((e_listed (is := [0, 1]) (X := [[1, 1], [2, 1], [2, 2], [3, 1], [3, 2], [3, 3], [4, 1], [4, 2], [4, 3], [4, 4], [5, 1], [5, 2], [5, 3], [5, 4], [5, 5]]) (T := [[], [1], [2], [3], [4], [5], [1, 1], [2, 1], [2, 2], [3, 1], [3, 2], [3, 3], [4, 1], [4, 2], [4, 3], [4, 4], [5, 1], [5, 2], [5, 3], [5, 4], [5, 5]]) (R := [[], [1], [1, 1], [2], [2, 1], [2, 2], [3], [3, 1], [3, 2], [3, 3], [4], [4, 1], [4, 2], [4, 3], [4, 4], [5], [5, 1], [5, 2], [5, 3], [5, 4], [5, 5]]) (by kernel_rfl) (by kernel_rfl) (by kernel_rfl) (by kernel_rfl)).trans (congrArg some (lst_of (c := 5) (by decide) (by kernel_rfl) (by kernel_rfl)))) h hl
theorem small_2 {d : List Int} (h : Dr d) (hl : d.length = 102) : f_w_small 3 4 d = some true := v_small (u := 3) (c := 4) (N := 35) ⟨by decide, by decide, by decide, by kernel_rfl, by decide, by decide⟩ ((e_listed (is := [0, 1, 2]) (X := [[1, 1, 1], [2, 1, 1], [2, 2, 1], [2, 2, 2], [3, 1, 1], [3, 2, 1], [3, 2, 2], [3, 3, 1], [3, 3, 2], [3, 3, 3], [4, 1, 1], [4, 2, 1], [4, 2, 2], [4, 3, 1], [4, 3, 2], [4, 3, 3], [4, 4, 1], [4, 4, 2], [4, 4, 3], [4, 4, 4]]) (T := [[], [1], [2], [3], [4], [1, 1], [2, 1], [2, 2], [3, 1], [3, 2], [3, 3], [4, 1], [4, 2], [4, 3], [4, 4], [1, 1, 1], [2, 1, 1], [2, 2, 1], [2, 2, 2], [3, 1, 1], [3, 2, 1], [3, 2, 2], [3, 3, 1], [3, 3, 2], [3, 3, 3], [4, 1, 1], [4, 2, 1], [4, 2, 2], [4, 3, 1], [4, 3, 2], [4, 3, 3], [4, 4, 1], [4, 4, 2], [4, 4, 3], [4, 4, 4]]) (R := [[], [1], [1, 1], [1, 1, 1], [2], [2, 1], [2, 1, 1], [2, 2], [2, 2, 1], [2, 2, 2], [3], [3, 1], [3, 1, 1], [3, 2], [3, 2, 1], [3, 2, 2], [3, 3], [3, 3, 1], [3, 3, 2], [3, 3, 3], [4], [4, 1], [4, 1, 1], [4, 2], [4, 2, 1], [4, 2, 2], [4, 3], [4, 3, 1], [4, 3, 2], [4, 3, 3], [4, 4], [4, 4, 1], [4, 4, 2], [4, 4, 3], [4, 4, 4]]) (by kernel_rfl) (by kernel_rfl) (by kernel_rfl) (by kernel_rfl)).trans (congrArg some (lst_of (c := 4) (by decide) (by kernel_rfl) (by kernel_rfl)))) h hl
theorem small_3 {d : List Int} (h : Dr d) (hl : d.length = 102) : f_w_small 4 3 d = some true := v_small (u := 4) (c := 3) (N := 35) ⟨by decide, by decide, by decide, by kernel_rfl, by decide, by decide⟩ ((e_listed (is := [0, 1, 2, 3]) (X := [[1, 1, 1, 1], [2, 1, 1, 1], [2, 2, 1, 1], [2, 2, 2, 1], [2, 2, 2, 2], [3, 1, 1, 1], [3, 2, 1, 1], [3, 2, 2, 1], [3, 2, 2, 2], [3, 3, 1, 1], [3, 3, 2, 1], [3, 3, 2, 2], [3, 3, 3, 1], [3, 3, 3, 2], [3, 3, 3, 3]]) (T := [[], [1], [2], [3], [1, 1], [2, 1], [2, 2], [3, 1], [3, 2], [3, 3], [1, 1, 1], [2, 1, 1], [2, 2, 1], [2, 2, 2], [3, 1, 1], [3, 2, 1], [3, 2, 2], [3, 3, 1], [3, 3, 2], [3, 3, 3], [1, 1, 1, 1], [2, 1, 1, 1], [2, 2, 1, 1], [2, 2, 2, 1], [2, 2, 2, 2], [3, 1, 1, 1], [3, 2, 1, 1], [3, 2, 2, 1], [3, 2, 2, 2], [3, 3, 1, 1], [3, 3, 2, 1], [3, 3, 2, 2], [3, 3, 3, 1], [3, 3, 3, 2], [3, 3, 3, 3]]) (R := [[], [1], [1, 1], [1, 1, 1], [1, 1, 1, 1], [2], [2, 1], [2, 1, 1], [2, 1, 1, 1], [2, 2], [2, 2, 1], [2, 2, 1, 1], [2, 2, 2], [2, 2, 2, 1], [2, 2, 2, 2], [3], [3, 1], [3, 1, 1], [3, 1, 1, 1], [3, 2], [3, 2, 1], [3, 2, 1, 1], [3, 2, 2], [3, 2, 2, 1], [3, 2, 2, 2], [3, 3], [3, 3, 1], [3, 3, 1, 1], [3, 3, 2], [3, 3, 2, 1], [3, 3, 2, 2], [3, 3, 3], [3, 3, 3, 1], [3, 3, 3, 2], [3, 3, 3, 3]]) (by kernel_rfl) (by kernel_rfl) (by kernel_rfl) (by kernel_rfl)).trans (congrArg some (lst_of (c := 3) (by decide) (by kernel_rfl) (by kernel_rfl)))) h hl
theorem small_4 {d : List Int} (h : Dr d) (hl : d.length = 102) : f_w_small 5 2 d = some true := v_small (u := 5) (c := 2) (N := 21) ⟨by decide, by decide, by decide, by kernel_rfl, by decide, by decide⟩ ((e_listed (is := [0, 1, 2, 3, 4]) (X := [[1, 1, 1, 1, 1], [2, 1, 1, 1, 1], [2, 2, 1, 1, 1], [2, 2, 2, 1, 1], [2, 2, 2, 2, 1], [2, 2, 2, 2, 2]]) (T := [[], [1], [2], [1, 1], [2, 1], [2, 2], [1, 1, 1], [2, 1, 1], [2, 2, 1], [2, 2, 2], [1, 1, 1, 1], [2, 1, 1, 1], [2, 2, 1, 1], [2, 2, 2, 1], [2, 2, 2, 2], [1, 1, 1, 1, 1], [2, 1, 1, 1, 1], [2, 2, 1, 1, 1], [2, 2, 2, 1, 1], [2, 2, 2, 2, 1], [2, 2, 2, 2, 2]]) (R := [[], [1], [1, 1], [1, 1, 1], [1, 1, 1, 1], [1, 1, 1, 1, 1], [2], [2, 1], [2, 1, 1], [2, 1, 1, 1], [2, 1, 1, 1, 1], [2, 2], [2, 2, 1], [2, 2, 1, 1], [2, 2, 1, 1, 1], [2, 2, 2], [2, 2, 2, 1], [2, 2, 2, 1, 1], [2, 2, 2, 2], [2, 2, 2, 2, 1], [2, 2, 2, 2, 2]]) (by kernel_rfl) (by kernel_rfl) (by kernel_rfl) (by kernel_rfl)).trans (congrArg some (lst_of (c := 2) (by decide) (by kernel_rfl) (by kernel_rfl)))) h hl
theorem small_5 {d : List Int} (h : Dr d) (hl : d.length = 102) : f_w_small 2 6 d = some true := v_small (u := 2) (c := 6) (N := 28) ⟨by decide, by decide, by decide, by kernel_rfl, by decide, by decide⟩ ((e_listed (is := [0, 1]) (X := [[1, 1], [2, 1], [2, 2], [3, 1], [3, 2], [3, 3], [4, 1], [4, 2], [4, 3], [4, 4], [5, 1], [5, 2], [5, 3], [5, 4], [5, 5], [6, 1], [6, 2], [6, 3], [6, 4], [6, 5], [6, 6]]) (T := [[], [1], [2], [3], [4], [5], [6], [1, 1], [2, 1], [2, 2], [3, 1], [3, 2], [3, 3], [4, 1], [4, 2], [4, 3], [4, 4], [5, 1], [5, 2], [5, 3], [5, 4], [5, 5], [6, 1], [6, 2], [6, 3], [6, 4], [6, 5], [6, 6]]) (R := [[], [1], [1, 1], [2], [2, 1], [2, 2], [3], [3, 1], [3, 2], [3, 3], [4], [4, 1], [4, 2], [4, 3], [4, 4], [5], [5, 1], [5, 2], [5, 3], [5, 4], [5, 5], [6], [6, 1], [6, 2], [6, 3], [6, 4], [6, 5], [6, 6]]) (by kernel_rfl) (by kernel_rfl) (by kernel_rfl) (by kernel_rfl)).trans (congrArg some (lst_of (c := 6) (by decide) (by kernel_rfl) (by kernel_rfl)))) h hl
theorem small_6 {d : List Int} (h : Dr d) (hl : d.length = 102) : f_w_small 6 2 d = some true := v_small (u := 6) (c := 2) (N := 28) ⟨by decide, by decide, by decide, by kernel_rfl, by decide, by decide⟩ ((e_listed (is := [0, 1, 2, 3, 4, 5]) (X := [[1, 1, 1, 1, 1, 1], [2, 1, 1, 1, 1, 1], [2, 2, 1, 1, 1, 1], [2, 2, 2, 1, 1, 1], [2, 2, 2, 2, 1, 1], [2, 2, 2, 2, 2, 1], [2, 2, 2, 2, 2, 2]]) (T := [[], [1], [2], [1, 1], [2, 1], [2, 2], [1, 1, 1], [2, 1, 1], [2, 2, 1], [2, 2, 2], [1, 1, 1, 1], [2, 1, 1, 1], [2, 2, 1, 1], [2, 2, 2, 1], [2, 2, 2, 2], [1, 1, 1, 1, 1], [2, 1, 1, 1, 1], [2, 2, 1, 1, 1], [2, 2, 2, 1, 1], [2, 2, 2, 2, 1], [2, 2, 2, 2, 2], [1, 1, 1, 1, 1, 1], [2, 1, 1, 1, 1, 1], [2, 2, 1, 1, 1, 1], [2, 2, 2, 1, 1, 1], [2, 2, 2, 2, 1, 1], [2, 2, 2, 2, 2, 1], [2, 2, 2, 2, 2, 2]]) (R := [[], [1], [1, 1], [1, 1, 1], [1, 1, 1, 1], [1, 1, 1, 1, 1], [1, 1, 1, 1, 1, 1], [2], [2, 1], [2, 1, 1], [2, 1, 1, 1], [2, 1, 1, 1, 1], [2, 1, 1, 1, 1, 1], [2, 2], [2, 2, 1], [2, 2, 1, 1], [2, 2, 1, 1, 1], [2, 2, 1, 1, 1, 1], [2, 2, 2], [2, 2, 2, 1], [2, 2, 2, 1, 1], [2, 2, 2, 1, 1, 1], [2, 2, 2, 2], [2, 2, 2, 2, 1], [2, 2, 2, 2, 1, 1], [2, 2, 2, 2, 2], [2, 2, 2, 2, 2, 1], [2, 2, 2, 2, 2, 2]]) (by kernel_rfl) (by kernel_rfl) (by kernel_rfl) (by kernel_rfl)).trans (congrArg some (lst_of (c := 2) (by decide) (by kernel_rfl) (by kernel_rfl)))) h hl
theorem small_7 {d : List Int} (h : Dr d) (hl : d.length = 102) : f_w_small 9 1 d = some true := v_small (u := 9) (c := 1) (N := 10) ⟨by decide, by decide, by decide, by kernel_rfl, by decide, by decide⟩ ((e_listed (is := [0, 1, 2, 3, 4, 5, 6, 7, 8]) (X := [[1, 1, 1, 1, 1, 1, 1, 1, 1]]) (T := [[], [1], [1, 1], [1, 1, 1], [1, 1, 1, 1], [1, 1, 1, 1, 1], [1, 1, 1, 1, 1, 1], [1, 1, 1, 1, 1, 1, 1], [1, 1, 1, 1, 1, 1, 1, 1], [1, 1, 1, 1, 1, 1, 1, 1, 1]]) (R := [[], [1], [1, 1], [1, 1, 1], [1, 1, 1, 1], [1, 1, 1, 1, 1], [1, 1, 1, 1, 1, 1], [1, 1, 1, 1, 1, 1, 1], [1, 1, 1, 1, 1, 1, 1, 1], [1, 1, 1, 1, 1, 1, 1, 1, 1]]) (by kernel_rfl) (by kernel_rfl) (by kernel_rfl) (by kernel_rfl)).trans (congrArg some (lst_of (c := 1) (by decide) (by kernel_rfl) (by kernel_rfl)))) h hl
theorem e_ref (j u : Nat) (hj : j < 8) (hu : u < 7) : ∃ o, atI [(nn ()), (PyData.str ("3" : Str)), ((ls PyData.int) []), (PyData.int (-1 : Int)), ((p1 PyData.int) (2 : Int)), (PyData.bool false), (PyData.bool true), (PyData.int (-10000000000000000000000))] (j : Int) = some o ∧ f_w_refusals o ((1 + u : Nat) : Int) = some true := by
  match j, u, hj, hu with
  | 0, 0, _, _ => exact ⟨_, rfl, ref_0_1⟩
  | 0, 1, _, _ => exact ⟨_, rfl, ref_0_2⟩
  | 0, 2, _, _ => exact ⟨_, rfl, ref_0_3⟩
  | 0, 3, _, _ => exact ⟨_, rfl, ref_0_4⟩
  | 0, 4, _, _ => exact ⟨_, rfl, ref_0_5⟩
  | 0, 5, _, _ => exact ⟨_, rfl, ref_0_6⟩
  | 0, 6, _, _ => exact ⟨_, rfl, ref_0_7⟩
  | 1, 0, _, _ => exact ⟨_, rfl, ref_1_1⟩
  | 1, 1, _, _ => exact ⟨_, rfl, ref_1_2⟩
  | 1, 2, _, _ => exact ⟨_, rfl, ref_1_3⟩
  | 1, 3, _, _ => exact ⟨_, rfl, ref_1_4⟩
  | 1, 4, _, _ => exact ⟨_, rfl, ref_1_5⟩
  | 1, 5, _, _ => exact ⟨_, rfl, ref_1_6⟩
  | 1, 6, _, _ => exact ⟨_, rfl, ref_1_7⟩
  | 2, 0, _, _ => exact ⟨_, rfl, ref_2_1⟩
  | 2, 1, _, _ => exact ⟨_, rfl, ref_2_2⟩
  | 2, 2, _, _ => exact ⟨_, rfl, ref_2_3⟩
  | 2, 3, _, _ => exact ⟨_, rfl, ref_2_4⟩
  | 2, 4, _, _ => exact ⟨_, rfl, ref_2_5⟩
  | 2, 5, _, _ => exact ⟨_, rfl, ref_2_6⟩
  | 2, 6, _, _ => exact ⟨_, rfl, ref_2_7⟩
  | 3, 0, _, _ => exact ⟨_, rfl, ref_3_1⟩
  | 3, 1, _, _ => exact ⟨_, rfl, ref_3_2⟩
  | 3, 2, _, _ => exact ⟨_, rfl, ref_3_3⟩
  | 3, 3, _, _ => exact ⟨_, rfl, ref_3_4⟩
  | 3, 4, _, _ => exact ⟨_, rfl, ref_3_5⟩
  | 3, 5, _, _ => exact ⟨_, rfl, ref_3_6⟩
  | 3, 6, _, _ => exact ⟨_, rfl, ref_3_7⟩
  | 4, 0, _, _ => exact ⟨_, rfl, ref_4_1⟩
  | 4, 1, _, _ => exact ⟨_, rfl, ref_4_2⟩
  | 4, 2, _, _ => exact ⟨_, rfl, ref_4_3⟩
  | 4, 3, _, _ => exact ⟨_, rfl, ref_4_4⟩
  | 4, 4, _, _ => exact ⟨_, rfl, ref_4_5⟩
  | 4, 5, _, _ => exact ⟨_, rfl, ref_4_6⟩
  | 4, 6, _, _ => exact ⟨_, rfl, ref_4_7⟩
  | 5, 0, _, _ => exact ⟨_, rfl, ref_5_1⟩
  | 5, 1, _, _ => exact ⟨_, rfl, ref_5_2⟩
  | 5, 2, _, _ => exact ⟨_, rfl, ref_5_3⟩
  | 5, 3, _, _ => exact ⟨_, rfl, ref_5_4⟩
  | 5, 4, _, _ => exact ⟨_, rfl, ref_5_5⟩
  | 5, 5, _, _ => exact ⟨_, rfl, ref_5_6⟩
  | 5, 6, _, _ => exact ⟨_, rfl, ref_5_7⟩
  | 6, 0, _, _ => exact ⟨_, rfl, ref_6_1⟩
  | 6, 1, _, _ => exact ⟨_, rfl, ref_6_2⟩
  | 6, 2, _, _ => exact ⟨_, rfl, ref_6_3⟩
  | 6, 3, _, _ => exact ⟨_, rfl, ref_6_4⟩
  | 6, 4, _, _ => exact ⟨_, rfl, ref_6_5⟩
  | 6, 5, _, _ => exact ⟨_, rfl, ref_6_6⟩
  | 6, 6, _, _ => exact ⟨_, rfl, ref_6_7⟩
  | 7, 0, _, _ => exact ⟨_, rfl, ref_7_1⟩
  | 7, 1, _, _ => exact ⟨_, rfl, ref_7_2⟩
  | 7, 2, _, _ => exact ⟨_, rfl, ref_7_3⟩
  | 7, 3, _, _ => exact ⟨_, rfl, ref_7_4⟩
  | 7, 4, _, _ => exact ⟨_, rfl, ref_7_5⟩
  | 7, 5, _, _ => exact ⟨_, rfl, ref_7_6⟩
  | 7, 6, _, _ => exact ⟨_, rfl, ref_7_7⟩
  | j + 8, _, h, _ => omega
  | _, u + 7, _, h => omega
theorem e_pair {d : List Int} (h : Dr d) (hl : d.length = 102) (j : Nat) (hj : j < 8) : ∃ p : Int × Int, atI [((1 : Int), (12 : Int)), ((2 : Int), (5 : Int)), ((3 : Int), (4 : Int)), ((4 : Int), (3 : Int)), ((5 : Int), (2 : Int)), ((2 : Int), (6 : Int)), ((6 : Int), (2 : Int)), ((9 : Int), (1 : Int))] (j : Int) = some p ∧ f_w_small p.1 p.2 d = some true := by
  match j, hj with
  | 0, _ => exact ⟨_, rfl, small_0 h hl⟩
  | 1, _ => exact ⟨_, rfl, small_1 h hl⟩
  | 2, _ => exact ⟨_, rfl, small_2 h hl⟩
  | 3, _ => exact ⟨_, rfl, small_3 h hl⟩
  | 4, _ => exact ⟨_, rfl, small_4 h hl⟩
  | 5, _ => exact ⟨_, rfl, small_5 h hl⟩
  | 6, _ => exact ⟨_, rfl, small_6 h hl⟩
  | 7, _ => exact ⟨_, rfl, small_7 h hl⟩
  | j + 8, h => omega
theorem v_J1 {d : List Int} {u : Nat} (h : Dr d) (hl : d.length = 102) (hu : 1 ≤ u) (hu2 : u ≤ 40) : f_law_J1 d (u : Int) = some true := by
  obtain ⟨a, a1, _⟩ := dr_at h hl (show 3 < 102 by omega)
  obtain ⟨b, b1, _⟩ := dr_at h hl (show 4 < 102 by omega)
  obtain ⟨o, o1, o2⟩ := e_ref (a % 8) (b % 7) (by omega) (by omega)
  unfold f_law_J1
  refine bs (v_far hu hu2 h hl) (iF rfl (bs (a := 10000000000000000000000) rfl (bs rfl (bs a1 (bs (a := o) ?_ (bs b1 (bs ?_ rfl)))))))
  · rw [show (a : Int) % 8 = ((a % 8 : Nat) : Int) by omega]
    exact o1
  · rw [show (1 : Int) + (b : Int) % 7 = ((1 + b % 7 : Nat) : Int) by omega]
    exact o2
theorem v_law {ns : List Int} (h : ns.length ≤ 63) : f_law ns = some true := by
  obtain ⟨d, d1, hl, hd⟩ := e_draws h
  obtain ⟨a, a1, _⟩ := dr_at hd hl (show 0 < 102 by omega)
  obtain ⟨b, b1, _⟩ := dr_at hd hl (show 1 < 102 by omega)
  obtain ⟨c, c1, _⟩ := dr_at hd hl (show 2 < 102 by omega)
  obtain ⟨p, p1, p2⟩ := e_pair hd hl (a % 8) (by omega)
  unfold f_law
  refine bs d1 (bs rfl (bs a1 (bs (a := p) ?_ (bs p2 (iF rfl (bs b1 (bs rfl (bs c1 ?_))))))))
  · rw [show (a : Int) % 8 = ((a % 8 : Nat) : Int) by omega]
    exact p1
  by_cases z : (0 : Int) < (c : Int) % 4
  · refine iT (decide_eq_true z) (bs b1 (bs rfl ?_))
    have := v_J1 (u := 1 + b % 8) hd hl (by omega) (by omega)
    rwa [show ((1 + b % 8 : Nat) : Int) = 1 + (b : Int) % 8 by omega] at this
  · refine iF (decide_eq_false z) ?_
    have := v_J1 (u := 1 + b % 40) hd hl (by omega) (by omega)
    rwa [show ((1 + b % 40 : Nat) : Int) = 1 + (b : Int) % 40 by omega] at this
theorem law_true (ns : List Int) (h : ns.length ≤ 63) : F_law [.list (ns.map PyData.int)] = some (.im (.bool true)) := k_law (v_law h)
end K19
namespace K19
open PySem PySem.Spec PyProof.Rows L2 DL
def level : Nat := 10
def spLaw (K : PySem.W.Frag) : Sp := fun vs H Q _ => ∃ (a : Addr) (ns : List Int), vs = [.ref a] ∧ SqL K H a (ns.map V.int) ∧ ns.length ≤ 63 ∧ ∀ H', Q (.bl true) H'
theorem law_imp {P : Program} {w : World} {K : PySem.W.Frag} {mg : Str → Option Value} {base : Heap} {f : Addr} {fd : FuncData} (h : FnOk P w K mg base CX0 10 f fd ["_law_script"] (spD K 1 F_law)) : FnOk P w K mg base CX0 level f fd ["_law_script"] (spLaw K) := by
  refine h.imp fun vs H Q E z => ?_
  obtain ⟨a, ns, rfl, hs, hl, q⟩ := z
  refine ⟨H, [.list (ns.map PyData.int)], _, Same.refl H, .cons (.lst hs (dpAll_ints ns)) .nil, rfl, law_true ns hl, fun v G' H' _ _ _ _ d => ?_⟩
  cases d
  exact q H'
theorem facts {P : Program} {w : World} {K : PySem.W.Frag} {h : Heap} {mg : Str → Option Value} {f : Addr} (X : K.In h) (G : h.Ns mainGlobals mg) (hfa : mg ("law" : Str) = some (.ref f)) (cx : SaysX fa fn ex K) :
    ∃ fd : FuncData, (∀ (s : Shared) (v : Value), BindsTo s fd ⟨[v], []⟩ [("_law_script", v)]) ∧ ∀ base : Heap, K.In base → base.Ns mainGlobals mg → FnOk P w K mg base CX0 level f fd ["_law_script"] (spLaw K) := by
  have c := cx.d
  have cxx := (He.ba cx.x).1
  have cxm := (He.ba cx.x).2
  have XI := exB_xi X G cxx
  have M : Mi mg := ⟨blB_ok X G cxm "comb" "math.comb" (by simp)⟩
  have B : Bi mg := ⟨He.free_ok X G (c.fact 32 (f := .free "abs") rfl), He.free_ok X G (c.fact 33 (f := .free "all") rfl), He.free_ok X G (c.fact 34 (f := .free "bool") rfl), He.free_ok X G (c.fact 35 (f := .free "enumerate") rfl), He.free_ok X G (c.fact 36 (f := .free "int") rfl), He.free_ok X G (c.fact 37 (f := .free "isinstance") rfl), He.free_ok X G (c.fact 38 (f := .free "len") rfl), He.free_ok X G (c.fact 39 (f := .free "list") rfl), He.free_ok X G (c.fact 40 (f := .free "min") rfl), He.free_ok X G (c.fact 41 (f := .free "range") rfl), He.free_ok X G (c.fact 42 (f := .free "sorted") rfl), He.free_ok X G (c.fact 43 (f := .free "tuple") rfl)⟩
  obtain ⟨fd_is_integer, F_is_integer_⟩ := c.def_ 0 (d := d_is_integer) rfl
  obtain ⟨fd_falling, F_falling_⟩ := c.def_ 3 (d := d_falling) rfl
  obtain ⟨fd__greatest_member, F__greatest_member_⟩ := c.def_ 7 (d := d__greatest_member) rfl
  obtain ⟨fd__law_mixed, F__law_mixed_⟩ := c.def_ 14 (d := d__law_mixed) rfl
  obtain ⟨fd__law_is, F__law_is_⟩ := c.def_ 16 (d := d__law_is) rfl
  obtain ⟨fd__law_great, F__law_great_⟩ := c.def_ 17 (d := d__law_great) rfl
  obtain ⟨fd__law_product, F__law_product_⟩ := c.def_ 18 (d := d__law_product) rfl
  obtain ⟨fd__law_cut, F__law_cut_⟩ := c.def_ 20 (d := d__law_cut) rfl
  obtain ⟨fd__law_after, F__law_after_⟩ := c.def_ 21 (d := d__law_after) rfl
  obtain ⟨fd__law_listed, F__law_listed_⟩ := c.def_ 22 (d := d__law_listed) rfl
  obtain ⟨fd__law_bound, F__law_bound_⟩ := c.def_ 24 (d := d__law_bound) rfl
  obtain ⟨fd_is_number, F_is_number_⟩ := c.def_ 1 (d := d_is_number) rfl
  obtain ⟨fd_is_natural, F_is_natural_⟩ := c.def_ 2 (d := d_is_natural) rfl
  obtain ⟨fd__law_draws, F__law_draws_⟩ := c.def_ 15 (d := d__law_draws) rfl
  obtain ⟨fd__law_place, F__law_place_⟩ := c.def_ 19 (d := d__law_place) rfl
  obtain ⟨fd__law_members, F__law_members_⟩ := c.def_ 25 (d := d__law_members) rfl
  obtain ⟨fd_is_row, F_is_row_⟩ := c.def_ 4 (d := d_is_row) rfl
  obtain ⟨fd_row_of, F_row_of_⟩ := c.def_ 9 (d := d_row_of) rfl
  obtain ⟨fd_capacity, F_capacity_⟩ := c.def_ 13 (d := d_capacity) rfl
  obtain ⟨fd_merged, F_merged_⟩ := c.def_ 5 (d := d_merged) rfl
  obtain ⟨fd__check_row, F__check_row_⟩ := c.def_ 6 (d := d__check_row) rfl
  obtain ⟨fd_number_of, F_number_of_⟩ := c.def_ 8 (d := d_number_of) rfl
  obtain ⟨fd_joined, F_joined_⟩ := c.def_ 10 (d := d_joined) rfl
  obtain ⟨fd_joined_all, F_joined_all_⟩ := c.def_ 11 (d := d_joined_all) rfl
  obtain ⟨fd_joined_many, F_joined_many_⟩ := c.def_ 12 (d := d_joined_many) rfl
  obtain ⟨fd__law_small, F__law_small_⟩ := c.def_ 23 (d := d__law_small) rfl
  obtain ⟨fd__law_far, F__law_far_⟩ := c.def_ 26 (d := d__law_far) rfl
  obtain ⟨fd__law_ask, F__law_ask_⟩ := c.def_ 27 (d := d__law_ask) rfl
  obtain ⟨fd__law_word, F__law_word_⟩ := c.def_ 28 (d := d__law_word) rfl
  obtain ⟨fd__law_refusals, F__law_refusals_⟩ := c.def_ 29 (d := d__law_refusals) rfl
  obtain ⟨fd_law, F_law_⟩ := c.def_ 30 (d := d_law) rfl
  obtain ⟨fd_i_NotUsable, F_i_NotUsable⟩ := c.def_ 31 (d := d_i_NotUsable) rfl
  have e := hfa.symm.trans (He.glo_ok X G (c.fact 30 (f := .glo "law") rfl))
  cases e
  have b := FunD.bindsA (ps := ["_law_script"]) F_law_ fun _ _ _ _ _ _ us hl => match us, hl with | [_], _ => rfl
  refine ⟨fd_law, fun s v => b s [v] rfl, fun base _ _ => ?_⟩
  have XT_NotUsable : ExT P w K mg base "NotUsable" ["word", "at"] := exB_ini X G cxx (x := "NotUsable") (by decide +kernel) (fun C hC xc hf => init2 F_i_NotUsable sc_i_NotUsable rfl xc.ox (hf "word" (by decide +kernel)) (hf "at" (by decide +kernel)) fun cdv A outer s H E => (pss_cons (ps_ost (pe_var (i := 0) rfl (Or.inl rfl) (by decide) (by decide)) (pe_var (i := 1) rfl (Or.inl rfl) (by decide) (by decide))) (pss_cons (ps_ost (pe_var (i := 0) rfl (Or.inl rfl) (by decide) (by decide)) (pe_var (i := 2) rfl (Or.inl rfl) (by decide) (by decide))) pss_nil))) (F_i_NotUsable.bindsN fun _ _ _ _ _ _ us hl => match us, hl with | [_, _, _], _ => rfl)
  have k_is_integer := ok_is_integer (P := P) (w := w) (mg := mg) (base := base) B F_is_integer_
  have c_is_integer := kfN F_is_integer_ k_is_integer (He.glo_ok X G (c.fact 0 (f := .glo "is_integer") rfl)) fun _ _ _ _ _ _ us hl => match us, hl with | [_], _ => rfl
  have k_falling := ok_falling (P := P) (w := w) (mg := mg) (base := base) B F_falling_
  have c_falling := kfN F_falling_ k_falling (He.glo_ok X G (c.fact 3 (f := .glo "falling") rfl)) fun _ _ _ _ _ _ us hl => match us, hl with | [_], _ => rfl
  have k__greatest_member := ok__greatest_member (P := P) (w := w) (mg := mg) (base := base) M F__greatest_member_
  have c__greatest_member := kfN F__greatest_member_ k__greatest_member (He.glo_ok X G (c.fact 7 (f := .glo "_greatest_member") rfl)) fun _ _ _ _ _ _ us hl => match us, hl with | [_, _], _ => rfl
  have k__law_mixed := ok__law_mixed (P := P) (w := w) (mg := mg) (base := base) B F__law_mixed_
  have c__law_mixed := kfN F__law_mixed_ k__law_mixed (He.glo_ok X G (c.fact 14 (f := .glo "_law_mixed") rfl)) fun _ _ _ _ _ _ us hl => match us, hl with | [_, _], _ => rfl
  have kh__law_is := okh__law_is (P := P) (w := w) (mg := mg) (base := base) B F__law_is_
  have c_H_law_is := kfHN F__law_is_ kh__law_is (He.glo_ok X G (c.fact 16 (f := .glo "_law_is") rfl)) fun _ _ _ _ _ _ us hl => match us, hl with | [_, _], _ => rfl
  have k__law_is := ok__law_is (P := P) (w := w) (mg := mg) (base := base) B F__law_is_
  have c__law_is := kfN F__law_is_ k__law_is (He.glo_ok X G (c.fact 16 (f := .glo "_law_is") rfl)) fun _ _ _ _ _ _ us hl => match us, hl with | [_, _], _ => rfl
  have k__law_great := ok__law_great (P := P) (w := w) (mg := mg) (base := base) B F__law_great_
  have c__law_great := kfN F__law_great_ k__law_great (He.glo_ok X G (c.fact 17 (f := .glo "_law_great") rfl)) fun _ _ _ _ _ _ us hl => match us, hl with | [_, _], _ => rfl
  have k__law_product := ok__law_product (P := P) (w := w) (mg := mg) (base := base) B F__law_product_
  have c__law_product := kfN F__law_product_ k__law_product (He.glo_ok X G (c.fact 18 (f := .glo "_law_product") rfl)) fun _ _ _ _ _ _ us hl => match us, hl with | [_, _], _ => rfl
  have k__law_cut := ok__law_cut (P := P) (w := w) (mg := mg) (base := base) B F__law_cut_
  have c__law_cut := kfN F__law_cut_ k__law_cut (He.glo_ok X G (c.fact 20 (f := .glo "_law_cut") rfl)) fun _ _ _ _ _ _ us hl => match us, hl with | [_, _], _ => rfl
  have k__law_after := ok__law_after (P := P) (w := w) (mg := mg) (base := base) B F__law_after_
  have c__law_after := kfN F__law_after_ k__law_after (He.glo_ok X G (c.fact 21 (f := .glo "_law_after") rfl)) fun _ _ _ _ _ _ us hl => match us, hl with | [_, _], _ => rfl
  have k__law_listed := ok__law_listed (P := P) (w := w) (mg := mg) (base := base) B F__law_listed_
  have c__law_listed := kfN F__law_listed_ k__law_listed (He.glo_ok X G (c.fact 22 (f := .glo "_law_listed") rfl)) fun _ _ _ _ _ _ us hl => match us, hl with | [_, _], _ => rfl
  have k__law_bound := ok__law_bound (P := P) (w := w) (mg := mg) (base := base) B F__law_bound_
  have c__law_bound := kfN F__law_bound_ k__law_bound (He.glo_ok X G (c.fact 24 (f := .glo "_law_bound") rfl)) fun _ _ _ _ _ _ us hl => match us, hl with | [_], _ => rfl
  have k_is_number := ok_is_number (P := P) (w := w) (mg := mg) (base := base) F_is_number_ c_is_integer
  have c_is_number := kfN F_is_number_ k_is_number (He.glo_ok X G (c.fact 1 (f := .glo "is_number") rfl)) fun _ _ _ _ _ _ us hl => match us, hl with | [_], _ => rfl
  have k_is_natural := ok_is_natural (P := P) (w := w) (mg := mg) (base := base) F_is_natural_ c_is_integer
  have c_is_natural := kfN F_is_natural_ k_is_natural (He.glo_ok X G (c.fact 2 (f := .glo "is_natural") rfl)) fun _ _ _ _ _ _ us hl => match us, hl with | [_], _ => rfl
  have k__law_draws := ok__law_draws (P := P) (w := w) (mg := mg) (base := base) B F__law_draws_ c__law_mixed
  have c__law_draws := kfN F__law_draws_ k__law_draws (He.glo_ok X G (c.fact 15 (f := .glo "_law_draws") rfl)) fun _ _ _ _ _ _ us hl => match us, hl with | [_, _], _ => rfl
  have k__law_place := ok__law_place (P := P) (w := w) (mg := mg) (base := base) B F__law_place_ c__law_product
  have c__law_place := kfN F__law_place_ k__law_place (He.glo_ok X G (c.fact 19 (f := .glo "_law_place") rfl)) fun _ _ _ _ _ _ us hl => match us, hl with | [_, _], _ => rfl
  have k__law_members := ok__law_members (P := P) (w := w) (mg := mg) (base := base) B F__law_members_ c__law_cut
  have c__law_members := kfN F__law_members_ k__law_members (He.glo_ok X G (c.fact 25 (f := .glo "_law_members") rfl)) fun _ _ _ _ _ _ us hl => match us, hl with | [_, _, _, _], _ => rfl
  have k_is_row := ok_is_row (P := P) (w := w) (mg := mg) (base := base) B F_is_row_ c_is_natural
  have c_is_row := kfN F_is_row_ k_is_row (He.glo_ok X G (c.fact 4 (f := .glo "is_row") rfl)) fun _ _ _ _ _ _ us hl => match us, hl with | [_], _ => rfl
  have kx_row_of := okx_row_of (P := P) (w := w) (mg := mg) (base := base) B M XI XT_NotUsable F_row_of_ c__greatest_member c_is_natural c_is_number
  have k_row_of := ok_row_of (P := P) (w := w) (mg := mg) (base := base) B M F_row_of_ c__greatest_member c_is_natural c_is_number
  have c_Xrow_of := kfXN F_row_of_ kx_row_of (He.glo_ok X G (c.fact 9 (f := .glo "row_of") rfl)) fun _ _ _ _ _ _ us hl => match us, hl with | [_, _], _ => rfl
  have c_row_of := kfN F_row_of_ k_row_of (He.glo_ok X G (c.fact 9 (f := .glo "row_of") rfl)) fun _ _ _ _ _ _ us hl => match us, hl with | [_, _], _ => rfl
  have k_capacity := ok_capacity (P := P) (w := w) (mg := mg) (base := base) M F_capacity_ c_is_natural
  have c_capacity := kfN F_capacity_ k_capacity (He.glo_ok X G (c.fact 13 (f := .glo "capacity") rfl)) fun _ _ _ _ _ _ us hl => match us, hl with | [_, _], _ => rfl
  have kx_merged := okx_merged (P := P) (w := w) (mg := mg) (base := base) B XI XT_NotUsable F_merged_ c_falling c_is_row
  have k_merged := ok_merged (P := P) (w := w) (mg := mg) (base := base) B F_merged_ c_falling c_is_row
  have c_Xmerged := kfXN F_merged_ kx_merged (He.glo_ok X G (c.fact 5 (f := .glo "merged") rfl)) fun _ _ _ _ _ _ us hl => match us, hl with | [_], _ => rfl
  have c_merged := kfN F_merged_ k_merged (He.glo_ok X G (c.fact 5 (f := .glo "merged") rfl)) fun _ _ _ _ _ _ us hl => match us, hl with | [_], _ => rfl
  have kx__check_row := okx__check_row (P := P) (w := w) (mg := mg) (base := base) B XI XT_NotUsable F__check_row_ c_is_natural c_is_row
  have k__check_row := ok__check_row (P := P) (w := w) (mg := mg) (base := base) B F__check_row_ c_is_natural c_is_row
  have c_X_check_row := kfXN F__check_row_ kx__check_row (He.glo_ok X G (c.fact 6 (f := .glo "_check_row") rfl)) fun _ _ _ _ _ _ us hl => match us, hl with | [_, _], _ => rfl
  have c__check_row := kfN F__check_row_ k__check_row (He.glo_ok X G (c.fact 6 (f := .glo "_check_row") rfl)) fun _ _ _ _ _ _ us hl => match us, hl with | [_, _], _ => rfl
  have kx_number_of := okx_number_of (P := P) (w := w) (mg := mg) (base := base) B M F_number_of_ c_X_check_row
  have k_number_of := ok_number_of (P := P) (w := w) (mg := mg) (base := base) B M F_number_of_ c__check_row
  have c_Xnumber_of := kfXN F_number_of_ kx_number_of (He.glo_ok X G (c.fact 8 (f := .glo "number_of") rfl)) fun _ _ _ _ _ _ us hl => match us, hl with | [_, _], _ => rfl
  have c_number_of := kfN F_number_of_ k_number_of (He.glo_ok X G (c.fact 8 (f := .glo "number_of") rfl)) fun _ _ _ _ _ _ us hl => match us, hl with | [_, _], _ => rfl
  have kx_joined := okx_joined (P := P) (w := w) (mg := mg) (base := base) XI XT_NotUsable F_joined_ c_Xmerged c_Xnumber_of c_is_natural c_is_number c_row_of
  have k_joined := ok_joined (P := P) (w := w) (mg := mg) (base := base) F_joined_ c_is_natural c_is_number c_merged c_number_of c_row_of
  have c_Xjoined := kfXN F_joined_ kx_joined (He.glo_ok X G (c.fact 10 (f := .glo "joined") rfl)) fun _ _ _ _ _ _ us hl => match us, hl with | [_, _, _], _ => rfl
  have c_joined := kfN F_joined_ k_joined (He.glo_ok X G (c.fact 10 (f := .glo "joined") rfl)) fun _ _ _ _ _ _ us hl => match us, hl with | [_, _, _], _ => rfl
  have c_joined_kw0_1_2_0 : KfK P w K mg base 6 "joined" (spD K 3 F_joined) 0 ["other", "width", "one"] [1, 2, 0] := ⟨_, fd_joined, _, k_joined, (He.glo_ok X G (c.fact 10 (f := .glo "joined") rfl)), F_joined_.kp, kbn_of F_joined_ 0 ["other", "width", "one"] [1, 2, 0] fun _ _ _ _ _ _ us ws h1 h2 => match us, ws, h1, h2 with | [], [_, _, _], _, _ => rfl⟩
  have c_joined_kw0_2_0_1 : KfK P w K mg base 6 "joined" (spD K 3 F_joined) 0 ["one", "other", "width"] [2, 0, 1] := ⟨_, fd_joined, _, k_joined, (He.glo_ok X G (c.fact 10 (f := .glo "joined") rfl)), F_joined_.kp, kbn_of F_joined_ 0 ["one", "other", "width"] [2, 0, 1] fun _ _ _ _ _ _ us ws h1 h2 => match us, ws, h1, h2 with | [], [_, _, _], _, _ => rfl⟩
  have kx_joined_all := okx_joined_all (P := P) (w := w) (mg := mg) (base := base) B XI XT_NotUsable F_joined_all_ c_Xmerged c_Xnumber_of c_is_natural c_is_number c_row_of
  have k_joined_all := ok_joined_all (P := P) (w := w) (mg := mg) (base := base) B F_joined_all_ c_is_natural c_is_number c_merged c_number_of c_row_of
  have c_Xjoined_all := kfXN F_joined_all_ kx_joined_all (He.glo_ok X G (c.fact 11 (f := .glo "joined_all") rfl)) fun _ _ _ _ _ _ us hl => match us, hl with | [_, _], _ => rfl
  have c_joined_all := kfN F_joined_all_ k_joined_all (He.glo_ok X G (c.fact 11 (f := .glo "joined_all") rfl)) fun _ _ _ _ _ _ us hl => match us, hl with | [_, _], _ => rfl
  have c_joined_all_kw0_1_0 : KfK P w K mg base 6 "joined_all" (spD K 2 F_joined_all) 0 ["numbers", "width"] [1, 0] := ⟨_, fd_joined_all, _, k_joined_all, (He.glo_ok X G (c.fact 11 (f := .glo "joined_all") rfl)), F_joined_all_.kp, kbn_of F_joined_all_ 0 ["numbers", "width"] [1, 0] fun _ _ _ _ _ _ us ws h1 h2 => match us, ws, h1, h2 with | [], [_, _], _, _ => rfl⟩
  have kx_joined_many := okx_joined_many (P := P) (w := w) (mg := mg) (base := base) XI XT_NotUsable F_joined_many_ c_Xmerged c_Xnumber_of c_Xrow_of c_is_natural c_is_number
  have k_joined_many := ok_joined_many (P := P) (w := w) (mg := mg) (base := base) F_joined_many_ c_is_natural c_is_number c_merged c_number_of c_row_of
  have c_Xjoined_many := kfXN F_joined_many_ kx_joined_many (He.glo_ok X G (c.fact 12 (f := .glo "joined_many") rfl)) fun _ _ _ _ _ _ us hl => match us, hl with | [_, _, _], _ => rfl
  have c_joined_many := kfN F_joined_many_ k_joined_many (He.glo_ok X G (c.fact 12 (f := .glo "joined_many") rfl)) fun _ _ _ _ _ _ us hl => match us, hl with | [_, _, _], _ => rfl
  have c_joined_many_kw0_2_1_0 : KfK P w K mg base 6 "joined_many" (spD K 3 F_joined_many) 0 ["many", "number", "width"] [2, 1, 0] := ⟨_, fd_joined_many, _, k_joined_many, (He.glo_ok X G (c.fact 12 (f := .glo "joined_many") rfl)), F_joined_many_.kp, kbn_of F_joined_many_ 0 ["many", "number", "width"] [2, 1, 0] fun _ _ _ _ _ _ us ws h1 h2 => match us, ws, h1, h2 with | [], [_, _, _], _, _ => rfl⟩
  have k__law_small := ok__law_small (P := P) (w := w) (mg := mg) (base := base) B F__law_small_ c__law_cut c__law_is c__law_listed c_joined c_joined_all c_joined_all_kw0_1_0 c_joined_kw0_1_2_0 c_joined_many
  have c__law_small := kfN F__law_small_ k__law_small (He.glo_ok X G (c.fact 23 (f := .glo "_law_small") rfl)) fun _ _ _ _ _ _ us hl => match us, hl with | [_, _, _], _ => rfl
  have k__law_far := ok__law_far (P := P) (w := w) (mg := mg) (base := base) B F__law_far_ c__law_after c__law_bound c__law_cut c__law_great c__law_is c__law_members c__law_place c__law_product c_capacity c_joined c_joined_all c_joined_kw0_2_0_1 c_joined_many c_joined_many_kw0_2_1_0
  have c__law_far := kfN F__law_far_ k__law_far (He.glo_ok X G (c.fact 26 (f := .glo "_law_far") rfl)) fun _ _ _ _ _ _ us hl => match us, hl with | [_, _], _ => rfl
  have kx__law_ask := okx__law_ask (P := P) (w := w) (mg := mg) (base := base) F__law_ask_ c_Xjoined c_Xjoined_all c_Xjoined_many
  have k__law_ask := ok__law_ask (P := P) (w := w) (mg := mg) (base := base) F__law_ask_ c_joined c_joined_all c_joined_many
  have c_X_law_ask := kfXN F__law_ask_ kx__law_ask (He.glo_ok X G (c.fact 27 (f := .glo "_law_ask") rfl)) fun _ _ _ _ _ _ us hl => match us, hl with | [_, _], _ => rfl
  have c__law_ask := kfN F__law_ask_ k__law_ask (He.glo_ok X G (c.fact 27 (f := .glo "_law_ask") rfl)) fun _ _ _ _ _ _ us hl => match us, hl with | [_, _], _ => rfl
  have k__law_word := ok__law_word (P := P) (w := w) (mg := mg) (base := base) XI F__law_word_ c_H_law_is c_X_law_ask
  have c__law_word := kfN F__law_word_ k__law_word (He.glo_ok X G (c.fact 28 (f := .glo "_law_word") rfl)) fun _ _ _ _ _ _ us hl => match us, hl with | [_, _], _ => rfl
  have k__law_refusals := ok__law_refusals (P := P) (w := w) (mg := mg) (base := base) F__law_refusals_ c__law_ask c__law_is c__law_word
  have c__law_refusals := kfN F__law_refusals_ k__law_refusals (He.glo_ok X G (c.fact 29 (f := .glo "_law_refusals") rfl)) fun _ _ _ _ _ _ us hl => match us, hl with | [_, _], _ => rfl
  have k_law := ok_law (P := P) (w := w) (mg := mg) (base := base) F_law_ c__law_draws c__law_far c__law_refusals c__law_small
  exact law_imp k_law
end K19
open PySem PySem.W PySem.Calls PyProof.Rows
theorem PySem.Challenge.cw_sincemarks_k19_whole_joining_holds : PySem.Challenge.rw_sincemarks_k19_whole_joining.Holds := by
  w_on; o_law
  refine HandSHeadRun.head_imp (r := OpenLaw.row PySem.Challenge.rw_sincemarks_k19_whole_joining) (q := view (OpenLaw.row PySem.Challenge.rw_sincemarks_k19_whole_joining).prog [0, 42]) (H := K19.hk) (ob := K19.ob) (M := 6000) (loose := K19.names) (d := HandSHeadRun.topDef (OpenLaw.row PySem.Challenge.rw_sincemarks_k19_whole_joining).prog 42) (kwd := []) K19.ob_eq
    K19.run (by kernel_rfl) (by kernel_rfl) (by kernel_rfl) (by rfl) (by first | assumption | decide +kernel) (by decide +kernel) ⟨rfl, rfl, rfl, rfl, rfl, by decide +kernel⟩ ?hw ?hc
  case hw => w_witness2
  case hc =>
    refine L2.walk_ofE (l := PySem.Challenge.rw_sincemarks_k19_whole_joining) (n := 63) (k := K19.level) (x := "_law_script") (CX := L2.CX0) rfl (by decide) (by kernel_rfl) ⟨rfl, by decide, by decide⟩ ?F (fun _ _ _ _ z => z)
    intro w mg fa h Y G hmg0
    obtain ⟨K, KX, c⟩ := Y
    have hmg : mg ("law" : PySem.Str) = some (.ref fa) := by
      have e : (HandSHeadRun.topDef (OpenLaw.row PySem.Challenge.rw_sincemarks_k19_whole_joining).prog 42).name = ("law" : PySem.Str) := by kernel_rfl
      rw [← e]
      exact hmg0
    obtain ⟨fd, hb, hF⟩ := K19.facts (P := (PySem.Challenge.rw_sincemarks_k19_whole_joining).prog) (w := w) KX G hmg c
    exact ⟨K, fd, K19.spLaw K, KX, hb, fun H a ns hl _ hS => ⟨a, ns, rfl, hS, hl, fun _ => rfl⟩, hF⟩
