import PyProof.Rows.All
import Wide.All
import OpenK.AllK
import Wide.FinOn
import HandS.ForMost
import HandS.Defaults
import HandS.Conv
import HandS.Zip
import HandS.Rev
import HandS.Style
import HandS.IsInst
import HandS.SortKw
import HandS.SortInts
import HandS.SortOrd
import HandS.TupAny
import HandS.TupLe
import HandS.Wide
import HandS.Flow
import KE.DataMinMax
import KE.SortData
import HandS.TupSets
import KE.GoesEnum
import KE.DataEq
import HandS.Exc
import HandS.ExcOwn
import HandS.ExcInit
import HandS.ExcField
import HandS.ExcIs
import HandS.TryMany
import HandS.ExcCtx
import HandS.HotCalls
import KE.KExcIs
import HandS.Head0
import HandS.Head1
import HandS.Head2
import HandS.HeadEnd
import HandS.HeadHook1
import HandS.HeadHook2
import HandS.Gcd
import KE.KMathGC
import HandS.TupMul
import HandS.Dict
import HandS.Deep
import HandS.Comp
import HandS.Head3
import PySem.Challenge.RW_sincemarks_k02_whole_elders
set_option Elab.async false
set_option linter.all false
set_option maxRecDepth 100000
set_option maxHeartbeats 0
namespace DL
open PySem PySem.Spec PyProof.Rows L2
abbrev St := L2.St
/-- a thing that is only asked: a set of ints, a range -/
inductive Ok where
  | ints (is : List Int)
  | rng (lo hi : Int)
  | xc (a dd : Addr) (fs : List (Str × V)) (ds : List (Str × PyData))
def Ok.At : Ok → HO → Prop
  | .ints is, o => ∃ n, o = .set (fun j => decide (j ∈ is)) n
  | .rng lo hi, o => o = .rng lo hi
  | .xc _ _ _ _, _ => False
inductive Sl where
  | im (d : PyData)
  | ac (ds : List PyData)
  | nl (dss : List (Bool × List PyData))
  | ob (k : Ok)
  | dk (kvs : List (Key × PyData))
abbrev Ev := List (Option Sl)
inductive Rs where
  | im (d : PyData)
  | ac (ds : List PyData)
  | br (i : Nat)
def isAc : Option (Option Sl) → Bool
  | some (some (.ac _)) => true
  | _ => false
theorem isAc_iff {o : Option (Option Sl)} : isAc o = true ↔ ∃ ds, o = some (some (.ac ds)) := by
  constructor
  · intro h
    match o, h with
    | some (some (.ac ds)), _ => exact ⟨ds, rfl⟩
  · rintro ⟨ds, rfl⟩
    rfl
section
variable {K : PySem.W.Frag} {E : Ef} {G G' G1 G2 H H' H1 G0 : Hp} {v : V} {vs ws : List V} {d : PyData} {ds : List PyData} {p a : Addr} {o : HO} {σ σ' : St} {e e' e1 : Ev} {m : Option Addr} {i : Nat} {r : Rs}
theorem seqT (s : Same G G') {xs : List V} (h : SqT K G a xs) : SqT K G' a xs := by
  rcases h with (h | ⟨q, h⟩) | h
  · exact .inl (.inl (s _ _ h))
  · exact .inl (.inr ⟨q, s _ _ h⟩)
  · exact .inr h
mutual
theorem dp_same (s : Same G G') : ∀ {v : V} {d : PyData}, Dp K G v d → Dp K G' v d
  | _, _, .non => .non
  | _, _, .bl b => .bl b
  | _, _, .int i => .int i
  | _, _, .str x => .str x
  | _, _, .lst h q => .lst (s.seq h) (dpAll_same s q)
  | _, _, .tup h q => .tup (seqT s h) (dpAll_same s q)
theorem dpAll_same (s : Same G G') : ∀ {vs : List V} {ds : List PyData}, DpAll K G vs ds → DpAll K G' vs ds
  | _, _, .nil => .nil
  | _, _, .cons h q => .cons (dp_same s h) (dpAll_same s q)
end
theorem dpAll_len : ∀ {vs : List V} {ds : List PyData}, DpAll K G vs ds → vs.length = ds.length
  | _, _, .nil => rfl
  | _, _, .cons _ q => congrArg (· + 1) (dpAll_len q)
theorem dpAll_get : ∀ {vs : List V} {ds : List PyData} {i : Nat} {d : PyData}, DpAll K G vs ds → ds[i]? = some d → ∃ v, vs[i]? = some v ∧ Dp K G v d
  | _, _, _, _, .nil, z => by simp at z
  | _, _, 0, _, .cons (v := v) h _, z => ⟨v, rfl, by
      have z2 := Option.some.inj z
      rw [← z2]
      exact h⟩
  | _, _, i + 1, _, .cons _ q, z => by
      obtain ⟨v, h1, h2⟩ := dpAll_get (i := i) q (by simpa using z)
      exact ⟨v, by simpa using h1, h2⟩
theorem dpAll_at : ∀ {vs : List V} {ds : List PyData} {i : Nat} {v : V}, DpAll K G vs ds → vs[i]? = some v → ∃ d, ds[i]? = some d ∧ Dp K G v d
  | _, _, _, _, .nil, z => by simp at z
  | _, _, 0, _, .cons (d := d) h _, z => ⟨d, rfl, by
      have z2 := Option.some.inj z
      rw [← z2]
      exact h⟩
  | _, _, i + 1, _, .cons _ q, z => by
      obtain ⟨v, h1, h2⟩ := dpAll_at (i := i) q (by simpa using z)
      exact ⟨v, by simpa using h1, h2⟩
theorem dpAll_app : ∀ {vs ws : List V} {ds es : List PyData}, DpAll K G vs ds → DpAll K G ws es → DpAll K G (vs ++ ws) (ds ++ es)
  | _, _, _, _, .nil, q => q
  | _, _, _, _, .cons h t, q => .cons h (dpAll_app t q)
theorem dpAll_set : ∀ {vs : List V} {ds : List PyData} (i : Nat), DpAll K G vs ds → Dp K G v d → DpAll K G (vs.set i v) (ds.set i d)
  | _, _, _, .nil, _ => .nil
  | _, _, 0, .cons _ t, q => .cons q t
  | _, _, i + 1, .cons h t, q => .cons h (dpAll_set i t q)
theorem dpAll_take : ∀ {vs : List V} {ds : List PyData} (n : Nat), DpAll K G vs ds → DpAll K G (vs.take n) (ds.take n)
  | _, _, 0, _ => .nil
  | _, _, _ + 1, .nil => .nil
  | _, _, n + 1, .cons h t => .cons h (dpAll_take n t)
theorem dpAll_drop : ∀ {vs : List V} {ds : List PyData} (n : Nat), DpAll K G vs ds → DpAll K G (vs.drop n) (ds.drop n)
  | _, _, 0, t => t
  | _, _, _ + 1, .nil => .nil
  | _, _, n + 1, .cons _ t => dpAll_drop n t
theorem dpAll_rev : ∀ {vs : List V} {ds : List PyData}, DpAll K G vs ds → DpAll K G vs.reverse ds.reverse
  | _, _, .nil => .nil
  | _, _, .cons h t => by
    rw [List.reverse_cons, List.reverse_cons]
    exact dpAll_app (dpAll_rev t) (.cons h .nil)
theorem dpAll_rep (h : DpAll K G vs ds) : ∀ k : Nat, DpAll K G (List.replicate k vs).flatten (List.replicate k ds).flatten
  | 0 => .nil
  | k + 1 => by
    rw [List.replicate_succ, List.replicate_succ, List.flatten_cons, List.flatten_cons]
    exact dpAll_app h (dpAll_rep h k)
theorem dpAll_ints : ∀ (ns : List Int), DpAll K G (ns.map V.int) (ns.map PyData.int)
  | [] => .nil
  | n :: ns => .cons (.int n) (dpAll_ints ns)
def Own (σ : St) (e : Ev) (a : Addr) : Prop := ∃ (i : Nat) (ds : List PyData), e[i]? = some (some (.ac ds)) ∧ σ[i]? = some (some (.ref a))
/-- what stood at the entry (b), and what is kept beside it since (h) -/
structure Ef where
  h : Hp
  b : Hp
  sub : ∀ a o, b a = some o → h a = some o
instance : CoeFun Ef (fun _ => Hp) := ⟨Ef.h⟩
def Ef.of (H : Hp) : Ef := ⟨H, H, fun _ _ z => z⟩
/-- an inner list: left as it is (true), or one's own -/
def NiF (K : PySem.W.Frag) (m : Option Addr) (E : Ef) (G0 G : Hp) (b : Bool) (ds : List PyData) (q : Addr) : Prop := match b with
  | true => Dp K G (.ref q) (.list ds)
  | false => E.b q = none ∧ G0 q = none ∧ m ≠ some q ∧ ∃ ws, E.h q = some (.lst ws) ∧ DpAll K G ws ds
/-- a list of one's own lists -/
def NlF (K : PySem.W.Frag) (m : Option Addr) (E : Ef) (G0 G : Hp) (o : Option (Option V)) (dss : List (Bool × List PyData)) : Prop :=
  ∃ (p : Addr) (qs : List Addr), o = some (some (.ref p)) ∧ E.h p = some (.lst (qs.map V.ref)) ∧ E.b p = none ∧ G0 p = none ∧ m ≠ some p ∧ qs.length = dss.length ∧ (p :: qs).Nodup ∧
    ∀ (j : Nat) (b : Bool) (ds : List PyData) (q : Addr), dss[j]? = some (b, ds) → qs[j]? = some q → NiF K m E G0 G b ds q
theorem NiF.mono {K : PySem.W.Frag} {m : Option Addr} {E : Ef} {G0 G G' : Hp} (s : Same G G') : ∀ {b : Bool} {ds : List PyData} {q : Addr}, NiF K m E G0 G b ds q → NiF K m E G0 G' b ds q
  | true, _, _, h => dp_same s h
  | false, _, _, ⟨h1, h2, h3, ws, h4, h5⟩ => ⟨h1, h2, h3, ws, h4, dpAll_same s h5⟩
theorem NlF.mono {K : PySem.W.Frag} {m : Option Addr} {E : Ef} {G0 G G' : Hp} {o : Option (Option V)} {dss : List (Bool × List PyData)} (s : Same G G') (h : NlF K m E G0 G o dss) : NlF K m E G0 G' o dss := by
  obtain ⟨p, qs, h1, h2, h3, h4, h5, h6, h7, h8⟩ := h
  exact ⟨p, qs, h1, h2, h3, h4, h5, h6, h7, fun j b ds q a1 a2 => (h8 j b ds q a1 a2).mono s⟩
/-- an exception that a clause holds: itself it lies outside, its dict is told -/
def ObF (K : PySem.W.Frag) (G : Hp) (o : Option (Option V)) : Ok → Prop
  | .xc a dd fs ds => o = some (some (.ref a)) ∧ G dd = some (.xd fs) ∧ fs.map (·.1) = ds.map (·.1) ∧ DpAll K G (fs.map (·.2)) (ds.map (·.2))
  | .ints is => ∃ (p : Addr) (u : HO), o = some (some (.ref p)) ∧ G p = some u ∧ (Ok.ints is).At u
  | .rng lo hi => ∃ (p : Addr) (u : HO), o = some (some (.ref p)) ∧ G p = some u ∧ (Ok.rng lo hi).At u
/-- a dict's items -/
def Dkv (K : PySem.W.Frag) (G : Hp) (ws : List (Key × V)) (kvs : List (Key × PyData)) : Prop := ws.map (·.1) = kvs.map (·.1) ∧ DpAll K G (ws.map (·.2)) (kvs.map (·.2))
/-- one's own dict -/
def DkF (K : PySem.W.Frag) (m : Option Addr) (E : Ef) (G0 G : Hp) (o : Option (Option V)) (kvs : List (Key × PyData)) : Prop :=
  ∃ (p : Addr) (ws : List (Key × V)), o = some (some (.ref p)) ∧ E.h p = some (.dK ws) ∧ E.b p = none ∧ G0 p = none ∧ m ≠ some p ∧ Dkv K G ws kvs
def OtF (K : PySem.W.Frag) (m : Option Addr) (E : Ef) (G0 G : Hp) (o : Option (Option V)) : Sl → Prop
  | .nl dss => NlF K m E G0 G o dss
  | .dk kvs => DkF K m E G0 G o kvs
  | .ob k => ObF K G o k
  | _ => True
theorem OtF.mono {K : PySem.W.Frag} {m : Option Addr} {E : Ef} {G0 G G' : Hp} {o : Option (Option V)} (s : Same G G') : ∀ {x : Sl}, OtF K m E G0 G o x → OtF K m E G0 G' o x
  | .nl _, h => NlF.mono s h
  | .dk _, ⟨p, ws, h1, h2, h3, h4, h5, h6, h7⟩ => ⟨p, ws, h1, h2, h3, h4, h5, h6, dpAll_same s h7⟩
  | .ob (.ints _), ⟨p, u, h1, h2, h3⟩ => ⟨p, u, h1, s p u h2, h3⟩
  | .ob (.rng _ _), ⟨p, u, h1, h2, h3⟩ => ⟨p, u, h1, s p u h2, h3⟩
  | .ob (.xc _ _ _ _), ⟨h1, h2, h3, h4⟩ => ⟨h1, s _ _ h2, h3, dpAll_same s h4⟩
  | .im _, _ => True.intro
  | .ac _, _ => True.intro
/-- the slots e are what σ holds: G what stays, H what stands, E what stood at the entry but the object at m -/
structure Rl (K : PySem.W.Frag) (m : Option Addr) (E : Ef) (G0 G : Hp) (e : Ev) (σ : St) (H : Hp) : Prop where
  gg : Same G0 G
  gh : Same G H
  eh : ∀ a o, E a = some o → m ≠ some a → H a = some o
  mh : ∀ a, m = some a → E a ≠ none ∧ H a ≠ none
  nw : ∀ a, G0 a = none → E a ≠ none → G a = none
  len : e.length = σ.length
  im : ∀ (i : Nat) (d : PyData), e[i]? = some (some (.im d)) → ∃ (v : V), σ[i]? = some (some v) ∧ Dp K G v d
  ac : ∀ (i : Nat) (ds : List PyData), e[i]? = some (some (.ac ds)) → ∃ (p : Addr) (ws : List V), σ[i]? = some (some (.ref p)) ∧ G p = none ∧ H p = some (.lst ws) ∧ DpAll K G ws ds ∧ (E p = none ∨ (m = some p ∧ i = 0))
  inj : ∀ (i j : Nat) (di dj : List PyData) (p : Addr), e[i]? = some (some (.ac di)) → e[j]? = some (some (.ac dj)) → σ[i]? = some (some (.ref p)) → σ[j]? = some (some (.ref p)) → i = j
  ot : ∀ (i : Nat) (s : Sl), e[i]? = some (some s) → OtF K m E G0 G σ[i]? s
theorem Rl.nl {K : PySem.W.Frag} {m : Option Addr} {E : Ef} {G0 G : Hp} {e : Ev} {σ : St} {H : Hp} (R : Rl K m E G0 G e σ H) (i : Nat) (dss : List (Bool × List PyData)) (h : e[i]? = some (some (.nl dss))) : NlF K m E G0 G σ[i]? dss := R.ot i (.nl dss) h
/-- from one moment of an expression to a later one -/
structure Stp (σ : St) (G H : Hp) (e : Ev) (G' H' : Hp) (e' : Ev) : Prop where
  gg : Same G G'
  nw : ∀ a, G a = none → H a ≠ none → G' a = none
  hh : ∀ a o, H a = some o → ¬ Own σ e a → H' a = some o
  kd : ∀ i : Nat, isAc e'[i]? = isAc e[i]?
  th : ∀ a, H a ≠ none → H' a ≠ none
theorem own_kd (k : ∀ i : Nat, isAc e'[i]? = isAc e[i]?) : Own σ e' a ↔ Own σ e a := by
  constructor
  · rintro ⟨i, ds, h1, h2⟩
    have z : isAc e[i]? = true := by rw [← k i, h1]; rfl
    obtain ⟨ds', q⟩ := isAc_iff.mp z
    exact ⟨i, ds', q, h2⟩
  · rintro ⟨i, ds, h1, h2⟩
    have z : isAc e'[i]? = true := by rw [k i, h1]; rfl
    obtain ⟨ds', q⟩ := isAc_iff.mp z
    exact ⟨i, ds', q, h2⟩
theorem Stp.refl : Stp σ G H e G H e := ⟨Same.refl _, fun _ h _ => h, fun _ _ h _ => h, fun _ => rfl, fun _ h => h⟩
theorem Stp.trans (a : Stp σ G H e G1 H1 e1) (b : Stp σ G1 H1 e1 G' H' e') : Stp σ G H e G' H' e' where
  gg := a.gg.trans b.gg
  nw := fun x h1 h2 => b.nw x (a.nw x h1 h2) (a.th x h2)
  hh := fun x o h1 h2 => b.hh x o (a.hh x o h1 h2) fun z => h2 ((own_kd a.kd).mp z)
  kd := fun i => (b.kd i).trans (a.kd i)
  th := fun x h => b.th x (a.th x h)
/-- a value as a result -/
def Vr (K : PySem.W.Frag) (E : Ef) (G H : Hp) (σ : St) (e : Ev) (v : V) : Rs → Prop
  | .im d => Dp K G v d
  | .ac ds => ∃ p ws, v = .ref p ∧ E p = none ∧ G p = none ∧ H p = some (.lst ws) ∧ DpAll K G ws ds ∧ ¬ Own σ e p
  | .br i => ∃ ds, e[i]? = some (some (.ac ds)) ∧ σ[i]? = some (some v)
/-- a new list was not there ahead -/
def Nw (H : Hp) (v : V) : Rs → Prop
  | .ac _ => ∀ p, v = .ref p → H p = none
  | _ => True
theorem Vr.stp (S : Stp σ G H e G' H' e') : ∀ {r : Rs}, Vr K E G H σ e v r → Vr K E G' H' σ e' v r
  | .im d, h => dp_same S.gg h
  | .ac ds, h => by
    obtain ⟨p, ws, rfl, h1, h2, h3, h4, h5⟩ := h
    exact ⟨p, ws, rfl, h1, S.nw p h2 (by rw [h3]; simp), S.hh p _ h3 h5, dpAll_same S.gg h4, fun z => h5 ((own_kd S.kd).mp z)⟩
  | .br i, h => by
    obtain ⟨ds, h1, h2⟩ := h
    have z : isAc e'[i]? = true := by rw [S.kd i, h1]; rfl
    obtain ⟨ds', q⟩ := isAc_iff.mp z
    exact ⟨ds', q, h2⟩
/-- the frozen form -/
def frzR : Rs → Rs
  | .ac ds => .im (.list ds)
  | r => r
/-- a new list is left as it is for good -/
theorem Rl.freeze (R : Rl K m E G0 G' e' σ H') (S : Stp σ G H e G' H' e') (h : Vr K E G' H' σ e' v r) (n : Nw H v r) :
    ∃ G2, Rl K m E G0 G2 e' σ H' ∧ Stp σ G H e G2 H' e' ∧ Same G' G2 ∧ Vr K E G2 H' σ e' v (frzR r) := by
  cases r with
  | im d => exact ⟨G', R, S, Same.refl _, h⟩
  | br i => exact ⟨G', R, S, Same.refl _, h⟩
  | ac ds =>
    obtain ⟨p, ws, rfl, h1, h2, h3, h4, h5⟩ := h
    have s1 : Same G' (upd G' p (.lst ws)) := fun b o q => by
      rw [upd_ne (ne_of_none q h2)]
      exact q
    have hp : H p = none := n p rfl
    refine ⟨upd G' p (.lst ws), ⟨R.gg.trans s1, fun b o q => ?_, R.eh, R.mh, fun b b1 b2 => ?_, R.len, fun i d q => ?_, fun i ds' q => ?_, R.inj, fun i dss q => (R.ot i dss q).mono s1⟩, ⟨S.gg.trans s1, fun b b1 b2 => ?_, S.hh, S.kd, S.th⟩, s1, ?_⟩
    · by_cases z : b = p
      · subst z
        rw [upd_same] at q
        rw [h3]
        exact q
      · rw [upd_ne z] at q
        exact R.gh b o q
    · have z : b ≠ p := fun z => b2 (by rw [z]; exact h1)
      rw [upd_ne z]
      exact R.nw b b1 b2
    · obtain ⟨u, q1, q2⟩ := R.im i d q
      exact ⟨u, q1, dp_same s1 q2⟩
    · obtain ⟨p', ws', q1, q2, q3, q4, q5⟩ := R.ac i ds' q
      have z : p' ≠ p := fun z => h5 ⟨i, ds', q, by rw [← z]; exact q1⟩
      exact ⟨p', ws', q1, by rw [upd_ne z]; exact q2, q3, dpAll_same s1 q4, q5⟩
    · have z : b ≠ p := fun z => b2 (by rw [z]; exact hp)
      rw [upd_ne z]
      exact S.nw b b1 b2
    · exact .lst (.inl (.inl upd_same)) (dpAll_same s1 h4)
/-- a list's own items may be in H, not in G -/
def Lv (K : PySem.W.Frag) (G H : Hp) (v : V) (d : PyData) : Prop := Dp K G v d ∨ ∃ p ws ds, v = .ref p ∧ d = .list ds ∧ H p = some (.lst ws) ∧ DpAll K G ws ds
/-- what a frozen result holds -/
def lookR (e : Ev) : Rs → Option PyData
  | .im d => some d
  | .ac _ => none
  | .br i => match e[i]? with
    | some (some (.ac ds)) => some (.list ds)
    | _ => none
theorem Rl.look (R : Rl K m E G0 G e σ H) (h : Vr K E G H σ e v r) (q : lookR e r = some d) : Lv K G H v d := by
  cases r with
  | im d' =>
    cases q
    exact .inl h
  | ac ds => cases q
  | br i =>
    obtain ⟨ds, h1, h2⟩ := h
    simp only [lookR, h1, Option.some.injEq] at q
    subst q
    obtain ⟨p, ws, q1, q2, q3, q4, q5⟩ := R.ac i ds h1
    rw [h2] at q1
    cases q1
    exact .inr ⟨p, ws, ds, rfl, rfl, q3, q4⟩
theorem Lv.dp (s : Same G H) (h : Lv K G H v d) : Dp K H v d := by
  rcases h with h | ⟨p, ws, ds, rfl, rfl, h1, h2⟩
  · exact dp_same s h
  · exact .lst (.inl (.inl h1)) (dpAll_same s h2)
/-- as a list -/
theorem Lv.list (s : Same G H) (h : Lv K G H v (.list ds)) : ∃ p ws, v = .ref p ∧ SqL K H p ws ∧ DpAll K G ws ds := by
  rcases h with h | ⟨p, ws, ds', rfl, e, h1, h2⟩
  · cases h with
    | lst h q => exact ⟨_, _, rfl, s.seq h, q⟩
  · cases e
    exact ⟨p, ws, rfl, .inl (.inl h1), h2⟩
theorem Lv.tup (s : Same G H) (h : Lv K G H v (.tuple ds)) : ∃ p ws, v = .ref p ∧ SqT K H p ws ∧ DpAll K G ws ds := by
  rcases h with h | ⟨p, ws, ds', rfl, e, h1, h2⟩
  · cases h with
    | tup h q => exact ⟨_, _, rfl, seqT s h, q⟩
  · cases e
theorem Lv.int {i : Int} (h : Lv K G H v (.int i)) : v = .int i := by
  rcases h with h | ⟨p, ws, ds, rfl, e, _⟩
  · cases h
    rfl
  · cases e
theorem Lv.bool {b : Bool} (h : Lv K G H v (.bool b)) : v = .bl b := by
  rcases h with h | ⟨p, ws, ds, rfl, e, _⟩
  · cases h
    rfl
  · cases e
theorem Lv.none (h : Lv K G H v .none) : v = .non := by
  rcases h with h | ⟨p, ws, ds, rfl, e, _⟩
  · cases h
    rfl
  · cases e
theorem Lv.str {x : Str} (h : Lv K G H v (.str x)) : v = .str x := by
  rcases h with h | ⟨p, ws, ds, rfl, e, _⟩
  · cases h
    rfl
  · cases e
theorem Rl.fresh (R : Rl K m E G0 G e σ H) (h : H p = none) : G p = none ∧ E p = none ∧ ¬ Own σ e p ∧ m ≠ some p := by
  refine ⟨R.gh.free h, ?_, ?_, ?_⟩
  · cases q : E p with
    | none => rfl
    | some o =>
      by_cases z : m = some p
      · exact absurd h (R.mh p z).2
      · rw [R.eh p o q z] at h
        cases h
  · rintro ⟨i, ds, h1, h2⟩
    obtain ⟨p', ws, q1, _, q3, _⟩ := R.ac i ds h1
    rw [h2] at q1
    cases q1
    rw [h] at q3
    cases q3
  · intro z
    exact absurd h (R.mh p z).2
theorem same_new (h : H p = none) : Same H (upd H p o) := fun b u q => by
  rw [upd_ne (ne_of_none q h)]
  exact q
/-- a new tuple -/
theorem Rl.newT (R : Rl K m E G0 G e σ H) (h : H p = none) (q : DpAll K G ws ds) :
    Rl K m E G0 (upd G p (.tup ws)) e σ (upd H p (.tup ws)) ∧ Stp σ G H e (upd G p (.tup ws)) (upd H p (.tup ws)) e ∧ Dp K (upd G p (.tup ws)) (.ref p) (.tuple ds) := by
  obtain ⟨hG, hE, hO, hm⟩ := R.fresh h
  have s1 : Same G (upd G p (.tup ws)) := same_new hG
  have nb : ∀ {b : Addr}, H b ≠ none → b ≠ p := fun {b} z y => z (by rw [y]; exact h)
  refine ⟨⟨R.gg.trans s1, fun b u z => ?_, fun b u b1 b2 => ?_, fun b b1 => ⟨(R.mh b b1).1, ?_⟩, fun b b1 b2 => ?_, R.len, fun i d z => ?_, fun i ds' z => ?_, R.inj, fun i dss z => (R.ot i dss z).mono s1⟩, ⟨s1, fun b b1 b2 => ?_, fun b u b1 _ => same_new h b u b1, fun _ => rfl, fun b b1 => ?_⟩, .tup (.inl (.inl upd_same)) (dpAll_same s1 q)⟩
  · by_cases y : b = p
    · subst y
      rw [upd_same] at z ⊢
      exact z
    · rw [upd_ne y] at z ⊢
      exact R.gh b u z
  · exact same_new h b u (R.eh b u b1 b2)
  · rw [upd_ne (nb (R.mh b b1).2)]
    exact (R.mh b b1).2
  · have y : b ≠ p := fun y => b2 (by rw [y]; exact hE)
    rw [upd_ne y]
    exact R.nw b b1 b2
  · obtain ⟨u, z1, z2⟩ := R.im i d z
    exact ⟨u, z1, dp_same s1 z2⟩
  · obtain ⟨p', ws', z1, z2, z3, z4, z5⟩ := R.ac i ds' z
    have y : p' ≠ p := nb (by rw [z3]; simp)
    exact ⟨p', ws', z1, by rw [upd_ne y]; exact z2, by rw [upd_ne y]; exact z3, dpAll_same s1 z4, z5⟩
  · rw [upd_ne (nb b2)]
    exact b1
  · rw [upd_ne (nb b1)]
    exact b1
/-- a new list -/
theorem Rl.newL (R : Rl K m E G0 G e σ H) (h : H p = none) (q : DpAll K G ws ds) :
    Rl K m E G0 G e σ (upd H p (.lst ws)) ∧ Stp σ G H e G (upd H p (.lst ws)) e ∧ Vr K E G (upd H p (.lst ws)) σ e (.ref p) (.ac ds) ∧ Nw H (.ref p) (.ac ds) := by
  obtain ⟨hG, hE, hO, hm⟩ := R.fresh h
  have nb : ∀ {b : Addr}, H b ≠ none → b ≠ p := fun {b} z y => z (by rw [y]; exact h)
  refine ⟨⟨R.gg, R.gh.trans (same_new h), fun b u b1 b2 => same_new h b u (R.eh b u b1 b2), fun b b1 => ⟨(R.mh b b1).1, ?_⟩, R.nw, R.len, R.im, fun i ds' z => ?_, R.inj, R.ot⟩, ⟨Same.refl _, fun _ b1 _ => b1, fun b u b1 _ => same_new h b u b1, fun _ => rfl, fun b b1 => ?_⟩, ⟨p, ws, rfl, hE, hG, upd_same, q, hO⟩, fun p' z => ?_⟩
  · rw [upd_ne (nb (R.mh b b1).2)]
    exact (R.mh b b1).2
  · obtain ⟨p', ws', z1, z2, z3, z4, z5⟩ := R.ac i ds' z
    have y : p' ≠ p := nb (by rw [z3]; simp)
    exact ⟨p', ws', z1, z2, by rw [upd_ne y]; exact z3, z4, z5⟩
  · rw [upd_ne (nb b1)]
    exact b1
  · cases z
    exact h
end
end DL
namespace DL
open PySem PySem.Spec PyProof.Rows L2
abbrev Fe := Ev → Option (Rs × Ev)
abbrev Ft := Ev → Option (Bool × Ev)
abbrev Fa := Ev → Option (List Rs × Ev)
inductive Fl where
  | nx (e : Ev)
  | bk (e : Ev)
  | ct (e : Ev)
  | rt (r : Rs) (e : Ev)
abbrev Fs := Ev → Option Fl
/-- what must follow a result -/
def Po (K : PySem.W.Frag) (m : Option Addr) (E : Ef) (G0 : Hp) (σ : St) (G H : Hp) (e : Ev) (r : Rs) (e' : Ev) (Q : VK) : Prop :=
  ∀ v G' H', Rl K m E G0 G' e' σ H' → Stp σ G H e G' H' e' → Vr K E G' H' σ e' v r → Nw H v r → Q v H'
structure ED (X : Cx) (x : Expr) (f : Fe) : Prop where
  ex : ∃ t : TE, PE X x t ∧ ∀ (m : Option Addr) (E : Ef) (G0 G : Hp) (e : Ev) (σ : St) (H : Hp) (r : Rs) (e' : Ev) (Q : VK),
    Rl X.K m E G0 G e σ H → f e = some (r, e') → Po X.K m E G0 σ G H e r e' Q → t σ H Q
structure TD (X : Cx) (x : Expr) (f : Ft) : Prop where
  ex : ∃ t : TT, PT X x t ∧ ∀ (m : Option Addr) (E : Ef) (G0 G : Hp) (e : Ev) (σ : St) (H : Hp) (b : Bool) (e' : Ev) (Q : Bool → Hp → Prop),
    Rl X.K m E G0 G e σ H → f e = some (b, e') → (∀ G' H', Rl X.K m E G0 G' e' σ H' → Stp σ G H e G' H' e' → Q b H') → t σ H Q
structure WD (X : Cx) (x : Expr) (f : Ft) : Prop where
  ex : ∃ t : TT, PW X x t ∧ ∀ (m : Option Addr) (E : Ef) (G0 G : Hp) (e : Ev) (σ : St) (H : Hp) (b : Bool) (e' : Ev) (Q : Bool → Hp → Prop),
    Rl X.K m E G0 G e σ H → f e = some (b, e') → (∀ G' H', Rl X.K m E G0 G' e' σ H' → Stp σ G H e G' H' e' → Q b H') → t σ H Q
def VrAll (K : PySem.W.Frag) (E : Ef) (G H : Hp) (σ : St) (e : Ev) : List V → List Rs → Prop
  | [], [] => True
  | v :: vs, r :: rs => Vr K E G H σ e v r ∧ VrAll K E G H σ e vs rs
  | _, _ => False
structure AD (X : Cx) (xs : List Expr) (f : Fa) : Prop where
  ex : ∃ t : TA, PA X xs t ∧ ∀ (m : Option Addr) (E : Ef) (G0 G : Hp) (e : Ev) (σ : St) (H : Hp) (rs : List Rs) (e' : Ev) (Q : List V → Hp → Prop),
    Rl X.K m E G0 G e σ H → f e = some (rs, e') → (∀ vs G' H', Rl X.K m E G0 G' e' σ H' → Stp σ G H e G' H' e' → VrAll X.K E G' H' σ e' vs rs → Q vs H') → t σ H Q
def lookAll (e : Ev) : List Rs → Option (List PyData)
  | [] => some []
  | r :: rs => match lookR e r with
    | some d => (match lookAll e rs with
      | some ds => some (d :: ds)
      | none => none)
    | none => none
def LvAll (K : PySem.W.Frag) (G H : Hp) : List V → List PyData → Prop
  | [], [] => True
  | v :: vs, d :: ds => Lv K G H v d ∧ LvAll K G H vs ds
  | _, _ => False
section
variable {K : PySem.W.Frag} {E : Ef} {G G' H H' G0 : Hp} {v : V} {d : PyData} {σ : St} {e e' e1 : Ev} {m : Option Addr} {r : Rs} {Q : VK}
theorem VrAll.stp (S : Stp σ G H e G' H' e') : ∀ {vs : List V} {rs : List Rs}, VrAll K E G H σ e vs rs → VrAll K E G' H' σ e' vs rs
  | [], [], _ => True.intro
  | _ :: _, _ :: _, h => ⟨h.1.stp S, VrAll.stp S h.2⟩
  | [], _ :: _, h => h.elim
  | _ :: _, [], h => h.elim
theorem Rl.lookAll (R : Rl K m E G0 G e σ H) : ∀ {vs : List V} {rs : List Rs} {ds : List PyData}, VrAll K E G H σ e vs rs → DL.lookAll e rs = some ds → LvAll K G H vs ds
  | [], [], ds, _, q => by
    cases q
    exact True.intro
  | v :: vs, r :: rs, ds, h, q => by
    simp only [DL.lookAll] at q
    cases h1 : lookR e r with
    | none =>
      rw [h1] at q
      cases q
    | some d =>
      rw [h1] at q
      cases h2 : DL.lookAll e rs with
      | none =>
        simp only [h2] at q
        cases q
      | some ds2 =>
        simp only [h2, Option.some.injEq] at q
        subst q
        exact ⟨R.look h.1 h1, R.lookAll h.2 h2⟩
  | [], _ :: _, _, h, _ => h.elim
  | _ :: _, [], _, h, _ => h.elim
theorem LvAll.len : ∀ {vs : List V} {ds : List PyData}, LvAll K G H vs ds → vs.length = ds.length
  | [], [], _ => rfl
  | _ :: _, _ :: _, h => congrArg (· + 1) (LvAll.len h.2)
  | [], _ :: _, h => h.elim
  | _ :: _, [], h => h.elim
theorem LvAll.dp (s : Same G H) : ∀ {vs : List V} {ds : List PyData}, LvAll K G H vs ds → DpAll K H vs ds
  | [], [], _ => .nil
  | _ :: _, _ :: _, h => .cons (h.1.dp s) (LvAll.dp s h.2)
  | [], _ :: _, h => h.elim
  | _ :: _, [], h => h.elim
/-- a result at the very moment -/
theorem Po.now (P : Po K m E G0 σ G H e r e Q) (R : Rl K m E G0 G e σ H) (h : Vr K E G H σ e v r) (n : Nw H v r) : Q v H := P v G H R Stp.refl h n
theorem Po.of (P : Po K m E G0 σ G H e r e' Q) (S : Stp σ G H e G' H' e1) : (∀ v, Nw H' v r → Nw H v r) → Po K m E G0 σ G' H' e1 r e' Q :=
  fun n v G2 H2 R2 S2 h2 n2 => P v G2 H2 R2 (S.trans S2) h2 (n v n2)
theorem nw_back (S : Stp σ G H e G' H' e1) : ∀ {r : Rs} (v : V), Nw H' v r → Nw H v r
  | .im _, _, _ => True.intro
  | .br _, _, _ => True.intro
  | .ac _, v, n => fun p z => by
    cases q : H p with
    | none => rfl
    | some o => exact absurd (n p z) (S.th p (by rw [q]; simp))
theorem Po.aft (P : Po K m E G0 σ G H e r e' Q) (S : Stp σ G H e G' H' e1) : Po K m E G0 σ G' H' e1 r e' Q := P.of S fun v n => nw_back S v n
end
def x_var (i : Nat) : Fe := fun e => match e[i]? with
  | some (some (.im d)) => some (.im d, e)
  | some (some (.ac _)) => some (.br i, e)
  | _ => none
def x_c (d : PyData) : Fe := fun e => some (.im d, e)
section
variable {X : Cx} {pos : Pos}
theorem ed_var (i : Nat) {x : Str} (hN : X.N[i]? = some x := by rfl) (hv : Vis X.env.scope x := by first | exact Or.inl rfl | exact Or.inr (Or.inl rfl) | exact Or.inr (Or.inr rfl)) (hd : (x == ("__debug__" : Str)) = false := by decide)
    (hcd : (x == ("__classdict__" : Str)) = false := by decide) : ED X (.Name x pos) (x_var i) := by
  refine ⟨_, pe_var hN hv hd hcd, fun m E G0 G e σ H r e' Q R q P => ?_⟩
  unfold x_var at q
  split at q
  · rename_i d h
    cases q
    obtain ⟨v, h1, h2⟩ := R.im i d h
    exact ⟨v, h1, P.now R h2 True.intro⟩
  · rename_i ds h
    cases q
    obtain ⟨p, ws, h1, _⟩ := R.ac i ds h
    exact ⟨.ref p, h1, P.now R ⟨ds, h, h1⟩ True.intro⟩
  · cases q
theorem ed_int {i j} : ED X (.Constant (.int i) j pos) (x_c (.int i)) := ⟨_, pe_int, fun m E G0 G e σ H r e' Q R q P => by
  cases q
  exact P.now R (.int i) True.intro⟩
theorem ed_bl {b j} : ED X (.Constant (.bool b) j pos) (x_c (.bool b)) := ⟨_, pe_bl, fun m E G0 G e σ H r e' Q R q P => by
  cases q
  exact P.now R (.bl b) True.intro⟩
theorem ed_non {j} : ED X (.Constant .none j pos) (x_c .none) := ⟨_, pe_non, fun m E G0 G e σ H r e' Q R q P => by
  cases q
  exact P.now R .non True.intro⟩
theorem ed_str {x j} : ED X (.Constant (.str x) j pos) (x_c (.str x)) := ⟨_, pe_str, fun m E G0 G e σ H r e' Q R q P => by
  cases q
  exact P.now R (.str x) True.intro⟩
end
/-- both sides, left to right -/
def two (fa fb : Fe) : Ev → Option (Rs × Rs × Ev) := fun e => match fa e with
  | some (ra, e1) => (match fb e1 with
    | some (rb, e2) => some (frzR ra, frzR rb, e2)
    | none => none)
  | none => none
def look2 (p : Rs × Rs × Ev) : Option (PyData × PyData × Ev) := match lookR p.2.2 p.1, lookR p.2.2 p.2.1 with
  | some a, some b => some (a, b, p.2.2)
  | _, _ => none
def x_bin (φ : PyData → PyData → Option Rs) (fa fb : Fe) : Fe := fun e => match two fa fb e with
  | some p => (match look2 p with
    | some (a, b, e2) => (match φ a b with
      | some r => some (r, e2)
      | none => none)
    | none => none)
  | none => none
section
variable {X : Cx} {a b : Expr} {fa fb : Fe} {pos : Pos}
theorem two_ok (ha : ED X a fa) (hb : ED X b fb) : ∃ ta tb, PE X a ta ∧ PE X b tb ∧ ∀ (m : Option Addr) (E : Ef) (G0 G : Hp) (e : Ev) (σ : St) (H : Hp) (ra rb : Rs) (e' : Ev) (R : V → V → Hp → Prop),
    Rl X.K m E G0 G e σ H → two fa fb e = some (ra, rb, e') → (∀ u v G' H', Rl X.K m E G0 G' e' σ H' → Stp σ G H e G' H' e' → Vr X.K E G' H' σ e' u ra → Vr X.K E G' H' σ e' v rb → R u v H') →
    ta σ H fun x H1 => tb σ H1 fun y H2 => R x y H2 := by
  obtain ⟨ta, pa, ka⟩ := ha
  obtain ⟨tb, pb, kb⟩ := hb
  refine ⟨ta, tb, pa, pb, fun m E G0 G e σ H ra rb e' R Rl0 q k => ?_⟩
  unfold two at q
  cases h1 : fa e with
  | none => simp only [h1] at q; cases q
  | some p1 =>
    obtain ⟨r1, e1⟩ := p1
    simp only [h1] at q
    cases h2 : fb e1 with
    | none => simp only [h2] at q; cases q
    | some p2 =>
      obtain ⟨r2, e2⟩ := p2
      simp only [h2, Option.some.injEq, Prod.mk.injEq] at q
      obtain ⟨rfl, rfl, rfl⟩ := q
      refine ka m E G0 G e σ H r1 e1 _ Rl0 h1 fun u G1 H1 R1 S1 V1 N1 => ?_
      obtain ⟨G1', R1', S1', s1, V1'⟩ := R1.freeze S1 V1 N1
      refine kb m E G0 G1' e1 σ H1 r2 e2 _ R1' h2 fun v G2 H2 R2 S2 V2 N2 => ?_
      obtain ⟨G2', R2', S2', s2, V2'⟩ := R2.freeze S2 V2 N2
      exact k u v G2' H2 R2' (S1'.trans S2') (V1'.stp S2') V2'
end
/-- a two-place rule by values, over data -/
def VB (K : PySem.W.Frag) (r : R2) (φ : PyData → PyData → Option Rs) : Prop :=
  ∀ (m : Option Addr) (E : Ef) (G0 G : Hp) (e : Ev) (σ : St) (H : Hp) (x y : V) (dx dy : PyData) (rr : Rs) (Q : VK), Rl K m E G0 G e σ H → Lv K G H x dx → Lv K G H y dy → φ dx dy = some rr → Po K m E G0 σ G H e rr e Q → r x y H Q
def orF {α β γ : Type} (φ ψ : α → β → Option γ) : α → β → Option γ := fun a b => match φ a b with
  | some r => some r
  | none => ψ a b
theorem VB.or {K : PySem.W.Frag} {r r' : R2} {φ ψ : PyData → PyData → Option Rs} (h : VB K r φ) (h' : VB K r' ψ) : VB K (fun x y H Q => r x y H Q ∨ r' x y H Q) (orF φ ψ) := by
  intro m E G0 G e σ H x y dx dy rr Q R lx ly q P
  unfold orF at q
  cases h1 : φ dx dy with
  | some r1 =>
    simp only [h1, Option.some.injEq] at q
    subst q
    exact .inl (h m E G0 G e σ H x y dx dy _ Q R lx ly h1 P)
  | none =>
    simp only [h1] at q
    exact .inr (h' m E G0 G e σ H x y dx dy _ Q R lx ly q P)
/-- its result is nothing new -/
theorem VB.pure {K : PySem.W.Frag} {r : R2} {φ : PyData → PyData → Option PyData}
    (h : ∀ (G H : Hp) (x y : V) (dx dy d : PyData) (Q : VK), Same G H → Lv K G H x dx → Lv K G H y dy → φ dx dy = some d → (∀ v, Dp K G v d → Q v H) → r x y H Q) : VB K r (fun a b => (φ a b).map Rs.im) := by
  intro m E G0 G e σ H x y dx dy rr Q R lx ly q P
  cases h1 : φ dx dy with
  | none => simp only [h1, Option.map_none] at q; cases q
  | some d =>
    simp only [h1, Option.map_some, Option.some.injEq] at q
    subst q
    exact h G H x y dx dy d Q R.gh lx ly h1 fun v z => P.now R z True.intro
section
variable {X : Cx} {a b : Expr} {fa fb : Fe} {pos : Pos} {op : Operator} {cop : CmpOp} {r : R2} {φ : PyData → PyData → Option Rs}
theorem bin_ok {ta tb : TE} (hv : VB X.K r φ) (k2 : ∀ (m : Option Addr) (E : Ef) (G0 G : Hp) (e : Ev) (σ : St) (H : Hp) (ra rb : Rs) (e' : Ev) (R : V → V → Hp → Prop),
    Rl X.K m E G0 G e σ H → two fa fb e = some (ra, rb, e') → (∀ u v G' H', Rl X.K m E G0 G' e' σ H' → Stp σ G H e G' H' e' → Vr X.K E G' H' σ e' u ra → Vr X.K E G' H' σ e' v rb → R u v H') → ta σ H fun x H1 => tb σ H1 fun y H2 => R x y H2)
    (m : Option Addr) (E : Ef) (G0 G : Hp) (e : Ev) (σ : St) (H : Hp) (rr : Rs) (e' : Ev) (Q : VK) (R : Rl X.K m E G0 G e σ H) (q : x_bin φ fa fb e = some (rr, e')) (P : Po X.K m E G0 σ G H e rr e' Q) : tOp r ta tb σ H Q := by
  unfold x_bin at q
  cases h1 : two fa fb e with
  | none => simp only [h1] at q; cases q
  | some p =>
    obtain ⟨ra, rb, e2⟩ := p
    simp only [h1] at q
    cases h2 : look2 (ra, rb, e2) with
    | none => simp only [h2] at q; cases q
    | some z =>
      obtain ⟨da, db, e3⟩ := z
      simp only [h2] at q
      cases h3 : φ da db with
      | none => simp only [h3] at q; cases q
      | some r3 =>
        simp only [h3, Option.some.injEq, Prod.mk.injEq] at q
        obtain ⟨rfl, rfl⟩ := q
        unfold look2 at h2
        dsimp only at h2
        cases h4 : lookR e2 ra with
        | none => simp only [h4] at h2; cases h2
        | some d1 =>
          cases h5 : lookR e2 rb with
          | none => simp only [h4, h5] at h2; cases h2
          | some d2 =>
            simp only [h4, h5, Option.some.injEq, Prod.mk.injEq] at h2
            obtain ⟨rfl, rfl, rfl⟩ := h2
            exact k2 m E G0 G e σ H ra rb e2 _ R h1 fun u v G' H' R' S' V1 V2 => hv m E G0 G' e2 σ H' u v _ _ _ Q R' (R'.look V1 h4) (R'.look V2 h5) h3 (P.aft S')
theorem ed_op (hv : VB X.K r φ) (ho : OpR X (binaryOp op) r) (ha : ED X a fa) (hb : ED X b fb) : ED X (.BinOp a op b pos) (x_bin φ fa fb) := by
  obtain ⟨ta, tb, pa, pb, k2⟩ := two_ok ha hb
  exact ⟨_, pe_op ho pa pb, bin_ok hv k2⟩
theorem ed_cmp (hv : VB X.K r φ) (ho : OpR X (compareOp cop) r) (hm : behindInMarks cop b = false) (ha : ED X a fa) (hb : ED X b fb) : ED X (.Compare a [cop] [b] pos) (x_bin φ fa fb) := by
  obtain ⟨ta, tb, pa, pb, k2⟩ := two_ok ha hb
  exact ⟨_, pe_cmpR ho pa pb hm, bin_ok hv k2⟩
end
/-- a result that is a bool, as a test -/
def t_of (f : Fe) : Ft := fun e => match f e with
  | some (.im (.bool b), e1) => some (b, e1)
  | _ => none
theorem t_of_ok {f : Fe} {e e' : Ev} {b : Bool} (q : t_of f e = some (b, e')) : f e = some (.im (.bool b), e') := by
  unfold t_of at q
  split at q
  · rename_i b1 e1 h
    cases q
    exact h
  · cases q
section
variable {X : Cx} {a b c : Expr} {fa fb fc : Fe} {pos : Pos} {cop cop' : CmpOp} {r r' : R2} {φ ψ : PyData → PyData → Option Rs}
theorem td_cmp (hv : VB X.K r φ) (ho : OpR X (compareOp cop) r) (hm : behindInMarks cop b = false) (ha : ED X a fa) (hb : ED X b fb) : TD X (.Compare a [cop] [b] pos) (t_of (x_bin φ fa fb)) := by
  obtain ⟨ta, tb, pa, pb, k2⟩ := two_ok ha hb
  refine ⟨_, pt_cmpR ho pa pb hm, fun m E G0 G e σ H k e' Q R q P => ?_⟩
  exact bin_ok hv k2 m E G0 G e σ H _ e' _ R (t_of_ok q) fun v G' H' R' S' V' _ => by
    cases V'
    exact ⟨k, rfl, P G' H' R' S'⟩
/-- an expression that gives a bool, as a test -/
theorem td_val {x : Expr} {f : Fe} (h : ED X x f) (he : ∀ whole, isTrue x X.env whole = (do let v ← whole; standAt x.pos; holding [v] (truthy v)) := by intro _; rfl) : TD X x (t_of f) := by
  obtain ⟨t, p, k⟩ := h
  refine ⟨_, pt_val p he, fun m E G0 G e σ H b e' Q R q P => ?_⟩
  exact k m E G0 G e σ H _ e' _ R (t_of_ok q) fun v G' H' R' S' V' _ => by
    cases V'
    exact ⟨b, rfl, P G' H' R' S'⟩
def t_not (f : Ft) : Ft := fun e => match f e with
  | some (b, e1) => some (!b, e1)
  | none => none
theorem td_not {f : Ft} (h : TD X a f) : TD X (.UnaryOp .Not a pos) (t_not f) := by
  obtain ⟨t, p, k⟩ := h
  refine ⟨_, pt_not p, fun m E G0 G e σ H b e' Q R q P => ?_⟩
  unfold t_not at q
  cases h1 : f e with
  | none => simp only [h1] at q; cases q
  | some z =>
    obtain ⟨b1, e1⟩ := z
    simp only [h1, Option.some.injEq, Prod.mk.injEq] at q
    obtain ⟨rfl, rfl⟩ := q
    exact k m E G0 G e σ H b1 e1 _ R h1 P
def t_and (f g : Ft) : Ft := fun e => match f e with
  | some (true, e1) => g e1
  | some (false, e1) => some (false, e1)
  | none => none
def t_or (f g : Ft) : Ft := fun e => match f e with
  | some (true, e1) => some (true, e1)
  | some (false, e1) => g e1
  | none => none
variable {f g : Ft} {rest : List Expr}
theorem wd_and1 (h : TD X a f) : WD X (.BoolOp .And [a] pos) f := by
  obtain ⟨t, p, k⟩ := h
  exact ⟨_, pw_and1 p, k⟩
theorem wd_or1 (h : TD X a f) : WD X (.BoolOp .Or [a] pos) f := by
  obtain ⟨t, p, k⟩ := h
  exact ⟨_, pw_or1 p, k⟩
theorem wd_and (h : TD X a f) (h2 : WD X (.BoolOp .And (b :: rest) pos) g) : WD X (.BoolOp .And (a :: b :: rest) pos) (t_and f g) := by
  obtain ⟨t, p, k⟩ := h
  obtain ⟨t2, p2, k2⟩ := h2
  refine ⟨_, pw_and p p2, fun m E G0 G e σ H c e' Q R q P => ?_⟩
  unfold t_and at q
  cases h1 : f e with
  | none => simp only [h1] at q; cases q
  | some z =>
    obtain ⟨b1, e1⟩ := z
    cases b1 with
    | true =>
      simp only [h1] at q
      refine k m E G0 G e σ H true e1 _ R h1 fun G' H' R' S' => ?_
      show if true = true then _ else _
      rw [if_pos rfl]
      exact k2 m E G0 G' e1 σ H' c e' Q R' q fun G2 H2 R2 S2 => P G2 H2 R2 (S'.trans S2)
    | false =>
      simp only [h1, Option.some.injEq, Prod.mk.injEq] at q
      obtain ⟨rfl, rfl⟩ := q
      refine k m E G0 G e σ H false e1 _ R h1 fun G' H' R' S' => ?_
      show if false = true then _ else _
      rw [if_neg Bool.false_ne_true]
      exact P G' H' R' S'
theorem wd_or (h : TD X a f) (h2 : WD X (.BoolOp .Or (b :: rest) pos) g) : WD X (.BoolOp .Or (a :: b :: rest) pos) (t_or f g) := by
  obtain ⟨t, p, k⟩ := h
  obtain ⟨t2, p2, k2⟩ := h2
  refine ⟨_, pw_or p p2, fun m E G0 G e σ H c e' Q R q P => ?_⟩
  unfold t_or at q
  cases h1 : f e with
  | none => simp only [h1] at q; cases q
  | some z =>
    obtain ⟨b1, e1⟩ := z
    cases b1 with
    | false =>
      simp only [h1] at q
      refine k m E G0 G e σ H false e1 _ R h1 fun G' H' R' S' => ?_
      show if false = true then _ else _
      rw [if_neg Bool.false_ne_true]
      exact k2 m E G0 G' e1 σ H' c e' Q R' q fun G2 H2 R2 S2 => P G2 H2 R2 (S'.trans S2)
    | true =>
      simp only [h1, Option.some.injEq, Prod.mk.injEq] at q
      obtain ⟨rfl, rfl⟩ := q
      refine k m E G0 G e σ H true e1 _ R h1 fun G' H' R' S' => ?_
      show if true = true then _ else _
      rw [if_pos rfl]
      exact P G' H' R' S'
theorem WD.td {x : Expr} (h : WD X x f) : TD X x f := by
  obtain ⟨t, p, k⟩ := h
  exact ⟨t, p.pt, k⟩
def x_and (f g : Fe) : Fe := fun e => match f e with
  | some (.im (.bool true), e1) => g e1
  | some (.im (.bool false), e1) => some (.im (.bool false), e1)
  | _ => none
def x_or (f g : Fe) : Fe := fun e => match f e with
  | some (.im (.bool true), e1) => some (.im (.bool true), e1)
  | some (.im (.bool false), e1) => g e1
  | _ => none
def x_not (f : Fe) : Fe := fun e => match f e with
  | some (.im (.bool b), e1) => some (.im (.bool !b), e1)
  | _ => none
theorem ed_one {op : BoolOp} {f : Fe} (h : ED X a f) : ED X (.BoolOp op [a] pos) f := by
  obtain ⟨t, p, k⟩ := h
  exact ⟨t, pe_one p, k⟩
theorem ed_and (h : ED X a fa) (h2 : ED X (.BoolOp .And (b :: rest) pos) fb) : ED X (.BoolOp .And (a :: b :: rest) pos) (x_and fa fb) := by
  obtain ⟨t, p, k⟩ := h
  obtain ⟨t2, p2, k2⟩ := h2
  refine ⟨_, pe_and p p2, fun m E G0 G e σ H r e' Q R q P => ?_⟩
  unfold x_and at q
  split at q
  · rename_i e1 h1
    refine k m E G0 G e σ H _ e1 _ R h1 fun v G' H' R' S' V' _ => ?_
    cases V'
    refine ⟨true, rfl, ?_⟩
    rw [if_pos rfl]
    exact k2 m E G0 G' e1 σ H' r e' Q R' q (P.aft S')
  · rename_i e1 h1
    cases q
    refine k m E G0 G e σ H _ _ _ R h1 fun v G' H' R' S' V' _ => ?_
    cases V'
    refine ⟨false, rfl, ?_⟩
    rw [if_neg Bool.false_ne_true]
    exact P _ G' H' R' S' (.bl false) True.intro
  · cases q
theorem ed_or (h : ED X a fa) (h2 : ED X (.BoolOp .Or (b :: rest) pos) fb) : ED X (.BoolOp .Or (a :: b :: rest) pos) (x_or fa fb) := by
  obtain ⟨t, p, k⟩ := h
  obtain ⟨t2, p2, k2⟩ := h2
  refine ⟨_, pe_or p p2, fun m E G0 G e σ H r e' Q R q P => ?_⟩
  unfold x_or at q
  split at q
  · rename_i e1 h1
    cases q
    refine k m E G0 G e σ H _ _ _ R h1 fun v G' H' R' S' V' _ => ?_
    cases V'
    refine ⟨true, rfl, ?_⟩
    rw [if_pos rfl]
    exact P _ G' H' R' S' (.bl true) True.intro
  · rename_i e1 h1
    refine k m E G0 G e σ H _ e1 _ R h1 fun v G' H' R' S' V' _ => ?_
    cases V'
    refine ⟨false, rfl, ?_⟩
    rw [if_neg Bool.false_ne_true]
    exact k2 m E G0 G' e1 σ H' r e' Q R' q (P.aft S')
  · cases q
theorem ed_not (h : ED X a fa) : ED X (.UnaryOp .Not a pos) (x_not fa) := by
  obtain ⟨t, p, k⟩ := h
  refine ⟨_, pe_not p, fun m E G0 G e σ H r e' Q R q P => ?_⟩
  unfold x_not at q
  split at q
  · rename_i b e1 h1
    cases q
    refine k m E G0 G e σ H _ _ _ R h1 fun v G' H' R' S' V' _ => ?_
    cases V'
    exact ⟨b, rfl, P _ G' H' R' S' (.bl (!b)) True.intro⟩
  · cases q
def x_chain (φ ψ : PyData → PyData → Option Rs) (fa fb fc : Fe) : Fe := fun e => match two fa fb e with
  | some p => (match look2 p with
    | some (a, b, e2) => (match φ a b with
      | some (.im (.bool true)) => (match fc e2 with
        | some (rc, e3) => (match lookR e3 p.2.1, lookR e3 (frzR rc) with
          | some b, some c => (match ψ b c with
            | some r => some (r, e3)
            | none => none)
          | _, _ => none)
        | none => none)
      | some (.im (.bool false)) => some (.im (.bool false), e2)
      | _ => none)
    | none => none)
  | none => none
theorem chain_ok {ta tb tc : TE} (hv : VB X.K r φ) (hv' : VB X.K r' ψ) (k2 : ∀ (m : Option Addr) (E : Ef) (G0 G : Hp) (e : Ev) (σ : St) (H : Hp) (ra rb : Rs) (e' : Ev) (R : V → V → Hp → Prop),
    Rl X.K m E G0 G e σ H → two fa fb e = some (ra, rb, e') → (∀ u v G' H', Rl X.K m E G0 G' e' σ H' → Stp σ G H e G' H' e' → Vr X.K E G' H' σ e' u ra → Vr X.K E G' H' σ e' v rb → R u v H') → ta σ H fun x H1 => tb σ H1 fun y H2 => R x y H2)
    (k3 : ∀ (m : Option Addr) (E : Ef) (G0 G : Hp) (e : Ev) (σ : St) (H : Hp) (r : Rs) (e' : Ev) (Q : VK), Rl X.K m E G0 G e σ H → fc e = some (r, e') → Po X.K m E G0 σ G H e r e' Q → tc σ H Q)
    (m : Option Addr) (E : Ef) (G0 G : Hp) (e : Ev) (σ : St) (H : Hp) (rr : Rs) (e' : Ev) (Q : VK) (R : Rl X.K m E G0 G e σ H) (q : x_chain φ ψ fa fb fc e = some (rr, e')) (P : Po X.K m E G0 σ G H e rr e' Q) : tChain r r' ta tb tc σ H Q := by
  unfold x_chain at q
  cases h1 : two fa fb e with
  | none => simp only [h1] at q; cases q
  | some p =>
    obtain ⟨ra, rb, e2⟩ := p
    simp only [h1] at q
    cases h2 : look2 (ra, rb, e2) with
    | none => simp only [h2] at q; cases q
    | some z =>
      obtain ⟨da, db, e3⟩ := z
      simp only [h2] at q
      have hl : lookR e2 ra = some da ∧ lookR e2 rb = some db ∧ e2 = e3 := by
        unfold look2 at h2
        dsimp only at h2
        cases h4 : lookR e2 ra with
        | none => simp only [h4] at h2; cases h2
        | some d1 =>
          cases h5 : lookR e2 rb with
          | none => simp only [h4, h5] at h2; cases h2
          | some d2 =>
            simp only [h4, h5, Option.some.injEq, Prod.mk.injEq] at h2
            obtain ⟨rfl, rfl, rfl⟩ := h2
            exact ⟨rfl, rfl, rfl⟩
      obtain ⟨l1, l2, rfl⟩ := hl
      refine k2 m E G0 G e σ H ra rb e2 _ R h1 fun u v G' H' R' S' V1 V2 => ?_
      split at q
      · rename_i h3
        refine hv m E G0 G' e2 σ H' u v _ _ _ _ R' (R'.look V1 l1) (R'.look V2 l2) h3 fun w G3 H3 R3 S3 V3 _ => ?_
        cases V3
        refine ⟨true, rfl, ?_⟩
        rw [if_pos rfl]
        cases h4 : fc e2 with
        | none => simp only [h4] at q; cases q
        | some z =>
          obtain ⟨rc, e4⟩ := z
          simp only [h4] at q
          refine k3 m E G0 G3 e2 σ H3 rc e4 _ R3 h4 fun w2 G4 H4 R4 S4 V4 N4 => ?_
          obtain ⟨G5, R5, S5, s5, V5⟩ := R4.freeze S4 V4 N4
          cases h5 : lookR e4 rb with
          | none => simp only [h5] at q; cases q
          | some d5 =>
            cases h6 : lookR e4 (frzR rc) with
            | none => simp only [h5, h6] at q; cases q
            | some d6 =>
              simp only [h5, h6] at q
              cases h7 : ψ d5 d6 with
              | none => simp only [h7] at q; cases q
              | some r7 =>
                simp only [h7, Option.some.injEq, Prod.mk.injEq] at q
                obtain ⟨rfl, rfl⟩ := q
                exact hv' m E G0 G5 e4 σ H4 v w2 _ _ _ Q R5 (R5.look ((V2.stp S3).stp S5) h5) (R5.look V5 h6) h7 (P.aft (S'.trans (S3.trans S5)))
      · rename_i h3
        cases q
        refine hv m E G0 G' _ σ H' u v _ _ _ _ R' (R'.look V1 l1) (R'.look V2 l2) h3 fun w G3 H3 R3 S3 V3 _ => ?_
        cases V3
        refine ⟨false, rfl, ?_⟩
        rw [if_neg Bool.false_ne_true]
        exact P _ G3 H3 R3 (S'.trans S3) (.bl false) True.intro
      · cases q
theorem td_chain (hv : VB X.K r φ) (ho : OpR X (compareOp cop) r) (hv' : VB X.K r' ψ) (ho' : OpR X (compareOp cop') r') (ha : ED X a fa) (hb : ED X b fb) (hc : ED X c fc)
    (hm : lastMarks [cop, cop'] [b, c] = false := by with_unfolding_all rfl) : TD X (.Compare a [cop, cop'] [b, c] pos) (t_of (x_chain φ ψ fa fb fc)) := by
  obtain ⟨ta, tb, pa, pb, k2⟩ := two_ok ha hb
  obtain ⟨tc, pc, k3⟩ := hc
  refine ⟨_, pt_chain ho ho' pa pb pc hm, fun m E G0 G e σ H k e' Q R q P => ?_⟩
  exact chain_ok hv hv' k2 k3 m E G0 G e σ H _ e' _ R (t_of_ok q) fun v G' H' R' S' V' _ => by
    cases V'
    exact ⟨k, rfl, P G' H' R' S'⟩
end
end DL
namespace DL
open PySem PySem.Spec PyProof.Rows L2
def d_int2 (f : Int → Int → PyData) (c : Int → Int → Bool) : PyData → PyData → Option PyData
  | .int i, .int j => if c i j = true then some (f i j) else none
  | _, _ => none
section
variable {K : PySem.W.Frag} {G H : Hp} {v : V} {d : PyData} {ds : List PyData} {vs ws : List V}
theorem int2_ok {f : Int → Int → PyData} {c : Int → Int → Bool} {dx dy d : PyData} (h : d_int2 f c dx dy = some d) : ∃ i j, dx = .int i ∧ dy = .int j ∧ c i j = true ∧ d = f i j := by
  unfold d_int2 at h
  split at h
  · rename_i i j
    by_cases z : c i j = true
    · rw [if_pos z] at h
      cases h
      exact ⟨i, j, rfl, rfl, z, rfl⟩
    · rw [if_neg z] at h
      cases h
  · cases h
theorem vb_int {C : Int → Int → Prop} {g : Int → Int → Int} {c : Int → Int → Bool} (hc : ∀ i j, c i j = true → C i j) : VB K (rI C fun i j => .int (g i j)) (fun a b => (d_int2 (fun i j => .int (g i j)) c a b).map Rs.im) :=
  VB.pure fun G H x y dx dy d Q s lx ly h k => by
    obtain ⟨i, j, rfl, rfl, z, rfl⟩ := int2_ok h
    exact ⟨i, j, lx.int, ly.int, hc i j z, k _ (.int _)⟩
theorem vb_int0 {g : Int → Int → Int} : VB K (rI0 fun i j => .int (g i j)) (fun a b => (d_int2 (fun i j => .int (g i j)) (fun _ _ => true) a b).map Rs.im) :=
  VB.pure fun G H x y dx dy d Q s lx ly h k => by
    obtain ⟨i, j, rfl, rfl, z, rfl⟩ := int2_ok h
    exact ⟨i, j, lx.int, ly.int, k _ (.int _)⟩
theorem vb_cmp0 {g : Int → Int → Bool} : VB K (rI0 fun i j => .bl (g i j)) (fun a b => (d_int2 (fun i j => .bool (g i j)) (fun _ _ => true) a b).map Rs.im) :=
  VB.pure fun G H x y dx dy d Q s lx ly h k => by
    obtain ⟨i, j, rfl, rfl, z, rfl⟩ := int2_ok h
    exact ⟨i, j, lx.int, ly.int, k _ (.bl _)⟩
end
def p_sub : PyData → PyData → Option Rs := fun a b => (d_int2 (fun i j => .int (i - j)) (fun _ _ => true) a b).map Rs.im
def p_lt : PyData → PyData → Option Rs := fun a b => (d_int2 (fun i j => .bool (decide (i < j))) (fun _ _ => true) a b).map Rs.im
def p_le : PyData → PyData → Option Rs := fun a b => (d_int2 (fun i j => .bool (decide (i ≤ j))) (fun _ _ => true) a b).map Rs.im
def p_gt : PyData → PyData → Option Rs := fun a b => (d_int2 (fun i j => .bool (decide (j < i))) (fun _ _ => true) a b).map Rs.im
def p_ge : PyData → PyData → Option Rs := fun a b => (d_int2 (fun i j => .bool (decide (j ≤ i))) (fun _ _ => true) a b).map Rs.im
/-- within 64 bits on one side -/
def mulC (i j : Int) : Bool := decide ((-18446744073709551616 < i ∧ i < 18446744073709551616) ∨ (-18446744073709551616 < j ∧ j < 18446744073709551616))
def mulWC (i j : Int) : Bool := decide (i.natAbs.log2 + j.natAbs.log2 < 1000000)
def p_mul : PyData → PyData → Option Rs := orF (fun a b => (d_int2 (fun i j => .int (i * j)) mulC a b).map Rs.im) (fun a b => (d_int2 (fun i j => .int (i * j)) mulWC a b).map Rs.im)
def divC (_ j : Int) : Bool := decide (0 < j ∧ j.natAbs.log2 < 9000)
def p_div : PyData → PyData → Option Rs := fun a b => (d_int2 (fun i j => .int (i / j)) divC a b).map Rs.im
def p_mod : PyData → PyData → Option Rs := fun a b => (d_int2 (fun i j => .int (i % j)) (fun _ j => decide (0 < j)) a b).map Rs.im
def powC (i j : Int) : Bool := decide (0 ≤ j ∧ j ≤ 1000000 ∧ i.natAbs < 18446744073709551616)
def p_pow : PyData → PyData → Option Rs := fun a b => (d_int2 (fun i j => .int (i ^ j.toNat)) powC a b).map Rs.im
section
variable {X : Cx}
theorem vb_sub : VB X.K (rI0 fun i j => .int (i - j)) p_sub := vb_int0
theorem vb_lt : VB X.K (rI0 fun i j => .bl (decide (i < j))) p_lt := vb_cmp0
theorem vb_le : VB X.K (rI0 fun i j => .bl (decide (i ≤ j))) p_le := vb_cmp0
theorem vb_gt : VB X.K (rI0 fun i j => .bl (decide (j < i))) p_gt := vb_cmp0
theorem vb_ge : VB X.K (rI0 fun i j => .bl (decide (j ≤ i))) p_ge := vb_cmp0
theorem mulC_ok {i j : Int} (h : mulC i j = true) : CMul i j := by
  have h1 := of_decide_eq_true h
  unfold CMul
  have e : (2 : Int) ^ 64 = 18446744073709551616 := by decide
  rw [e]
  exact h1
theorem vb_mul : VB X.K (fun x y H Q => (rI CMul fun i j => .int (i * j)) x y H Q ∨ (rI CMulW fun i j => .int (i * j)) x y H Q) p_mul :=
  VB.or (vb_int fun i j z => mulC_ok z) (vb_int fun i j z => (of_decide_eq_true z : i.natAbs.log2 + j.natAbs.log2 < 1000000))
theorem op_mul2 : OpR X (binaryOp .Mult) (fun x y H Q => (rI CMul fun i j => .int (i * j)) x y H Q ∨ (rI CMulW fun i j => .int (i * j)) x y H Q) := OpR.or op_mul op_mulW
theorem vb_div : VB X.K (rI CDivW fun i j => .int (i / j)) p_div := vb_int fun i j z => by
  have h := of_decide_eq_true z
  exact h
theorem vb_mod : VB X.K (rI (fun _ j => 0 < j) fun i j => .int (i % j)) p_mod := vb_int fun i j z => of_decide_eq_true z
theorem vb_pow : VB X.K (rI CPow fun i j => .int (i ^ j.toNat)) p_pow := vb_int fun i j z => by
  have h := of_decide_eq_true z
  unfold CPow
  rw [show (2 : Nat) ^ 64 = 18446744073709551616 by decide]
  exact h
end
def okLen (n : Nat) : Bool := decide (n ≤ 16777216)
theorem okLen_ok {n : Nat} (h : okLen n = true) : n ≤ sizeLine := by
  have h1 := of_decide_eq_true h
  rw [sizeLine_eq]
  exact h1
def rCatS (K : PySem.W.Frag) : R2 := fun x y H Q => ∃ a b xs zs, x = .ref a ∧ y = .ref b ∧ SqL K H a xs ∧ SqL K H b zs ∧ xs.length + zs.length ≤ sizeLine ∧ ∀ p, H p = none → Q (.ref p) (upd H p (.lst (xs ++ zs)))
theorem op_catS {X : Cx} : OpR X (binaryOp .Add) (rCatS X.K) := by
  rintro pins s σ H _ _ v u Q I rx ry ⟨a, b, xs, zs, rfl, rfl, ha, hb, small, fin⟩
  cases rx
  cases ry
  obtain ⟨us, va, ⟨⟨c1, d1, t1, sl1⟩, n1, at1, o1, _, p1⟩, z1⟩ := I.list ha
  obtain ⟨ws, vb, ⟨⟨c2, d2, t2, sl2⟩, n2, at2, o2, _, p2⟩, z2⟩ := I.list hb
  dsimp only at o1 p1 o2 p2
  subst o1 p1 o2 p2
  have la := va.length
  have lb := vb.length
  have fits : (xs ++ zs).length ≤ sizeLine := by
    rw [List.length_append]
    exact small
  have sum := PyProof.Rows.list_addW a b us.toArray ws.toArray n1 n2 d1 d2 sl1 sl2 (by simp only [List.size_toArray]; omega)
  refine concat_meets (T := "list") ⟨_, at1, rfl⟩ ⟨_, at2, rfl⟩ noFill_list_add seq_list_add F.slot_list_add F.entry_list_add (F.args_list_add_2 _ _) sum ⟨at1, at2, ?_⟩
  have laid := I.lnew (t' := s.toks) (va.append vb) fits
  rw [← List.append_toArray] at laid
  exact ⟨.ref s.heap.objs.size, _, laid, rfl, fin _ I.fresh⟩
def q_cat : PyData → PyData → Option Rs
  | .list a, .list b => if okLen (a.length + b.length) = true then some (.ac (a ++ b)) else none
  | _, _ => none
def q_catT : PyData → PyData → Option Rs
  | .tuple a, .tuple b => if okLen (a.length + b.length) = true then some (.im (.tuple (a ++ b))) else none
  | _, _ => none
def p_add : PyData → PyData → Option Rs := orF (fun a b => (d_int2 (fun i j => .int (i + j)) (fun _ _ => true) a b).map Rs.im) (orF q_cat q_catT)
section
variable {X : Cx}
theorem vb_cat {K : PySem.W.Frag} : VB K (rCatS K) q_cat := by
  intro m E G0 G e σ H x y dx dy rr Q R lx ly q P
  unfold q_cat at q
  split at q
  · rename_i a b
    by_cases z : okLen (a.length + b.length) = true
    · rw [if_pos z] at q
      cases q
      obtain ⟨p1, w1, rfl, s1, k1⟩ := lx.list R.gh
      obtain ⟨p2, w2, rfl, s2, k2⟩ := ly.list R.gh
      have z1 := okLen_ok z
      refine ⟨p1, p2, w1, w2, rfl, rfl, s1, s2, by rw [dpAll_len k1, dpAll_len k2]; exact z1, fun p hp => ?_⟩
      obtain ⟨R', S', V', N'⟩ := R.newL hp (dpAll_app k1 k2)
      exact P _ _ _ R' S' V' N'
    · rw [if_neg z] at q
      cases q
  · cases q
theorem vb_catT {K : PySem.W.Frag} : VB K (rCatA K) q_catT := by
  intro m E G0 G e σ H x y dx dy rr Q R lx ly q P
  unfold q_catT at q
  split at q
  · rename_i a b
    by_cases z : okLen (a.length + b.length) = true
    · rw [if_pos z] at q
      cases q
      obtain ⟨p1, w1, e1, s1, k1⟩ := lx.tup R.gh
      obtain ⟨p2, w2, e2, s2, k2⟩ := ly.tup R.gh
      have z1 := okLen_ok z
      refine ⟨p1, p2, w1, w2, e1, e2, s1, s2, by rw [dpAll_len k1, dpAll_len k2]; exact z1, fun h => ?_, fun h1 h2 => ?_, fun _ _ p hp => ?_⟩
      · have ea : a = [] := by
          subst h
          cases k1
          rfl
        subst ea
        rcases ly with ly | ⟨_, _, _, _, z, _⟩
        · rw [← e2]
          exact P.now R ly True.intro
        · cases z
      · have eb : b = [] := by
          subst h2
          cases k2
          rfl
        subst eb
        rcases lx with lx | ⟨_, _, _, _, z, _⟩
        · rw [← e1, List.append_nil] at *
          exact P.now R lx True.intro
        · cases z
      · obtain ⟨R', S', D'⟩ := R.newT hp (dpAll_app k1 k2)
        exact P _ _ _ R' S' D' True.intro
    · rw [if_neg z] at q
      cases q
  · cases q
theorem vb_add : VB X.K (fun x y H Q => (rI0 fun i j => .int (i + j)) x y H Q ∨ (rCatS X.K x y H Q ∨ rCatA X.K x y H Q)) p_add := VB.or vb_int0 (VB.or vb_cat vb_catT)
theorem op_add3 : OpR X (binaryOp .Add) (fun x y H Q => (rI0 fun i j => .int (i + j)) x y H Q ∨ (rCatS X.K x y H Q ∨ rCatA X.K x y H Q)) := OpR.or op_add (OpR.or op_catS op_catA)
end
def p_eq : PyData → PyData → Option Rs := fun a b => if (SeqAt.shaped a && SeqAt.shaped b) = true then some (.im (.bool (PyData.eqv a b))) else none
def p_ne : PyData → PyData → Option Rs := fun a b => if (SeqAt.shaped a && SeqAt.shaped b) = true then some (.im (.bool (!PyData.eqv a b))) else none
def flatD : PyData → Bool
  | .none => true
  | .bool _ => true
  | .int _ => true
  | .str _ => true
  | _ => false
def inD (x : PyData) (ds : List PyData) : Bool := ds.any fun y => PyData.eqv y x
def seqD : PyData → Option (List PyData)
  | .list ds => some ds
  | .tuple ds => some ds
  | _ => none
def p_inB (neg : Bool) : PyData → PyData → Option Rs := fun x y => match seqD y with
  | some ds => if (flatD x && ds.all flatD) = true then some (.im (.bool (if neg = true then !inD x ds else inD x ds))) else none
  | none => none
abbrev p_in := p_inB false
abbrev p_notin := p_inB true
def p_isN (neg : Bool) : PyData → PyData → Option PyData
  | .none, .none => some (.bool (!neg))
  | .list _, .none => some (.bool neg)
  | .tuple _, .none => some (.bool neg)
  | .bool _, .none => some (.bool neg)
  | .int _, .none => some (.bool neg)
  | .str _, .none => some (.bool neg)
  | _, _ => none
def p_isB (neg : Bool) : PyData → PyData → Option PyData
  | .bool a, .bool b => some (.bool (if neg = true then !(decide (a = b)) else decide (a = b)))
  | _, _ => none
def p_is : PyData → PyData → Option Rs := orF (fun a b => (p_isN false a b).map Rs.im) (fun a b => (p_isB false a b).map Rs.im)
section
variable {X : Cx} {K : PySem.W.Frag}
theorem shp {a b : PyData} (h : (SeqAt.shaped a && SeqAt.shaped b) = true) : SeqAt.shaped a = true ∧ SeqAt.shaped b = true := Bool.and_eq_true_iff.mp h
theorem vb_eq : VB K (rEqD K) p_eq := by
  intro m E G0 G e σ H x y dx dy rr Q R lx ly q P
  unfold p_eq at q
  by_cases z : (SeqAt.shaped dx && SeqAt.shaped dy) = true
  · rw [if_pos z] at q
    cases q
    exact ⟨dx, dy, lx.dp R.gh, ly.dp R.gh, (shp z).1, (shp z).2, P.now R (.bl _) True.intro⟩
  · rw [if_neg z] at q
    cases q
theorem vb_ne : VB K (rNeD K) p_ne := by
  intro m E G0 G e σ H x y dx dy rr Q R lx ly q P
  unfold p_ne at q
  by_cases z : (SeqAt.shaped dx && SeqAt.shaped dy) = true
  · rw [if_pos z] at q
    cases q
    exact ⟨dx, dy, lx.dp R.gh, ly.dp R.gh, (shp z).1, (shp z).2, P.now R (.bl _) True.intro⟩
  · rw [if_neg z] at q
    cases q
theorem dp_flat {G : Hp} {v : V} {d : PyData} (h : Dp K G v d) (f : flatD d = true) : flatV v = true := by
  cases h with
  | lst _ _ => cases f
  | tup _ _ => cases f
  | _ => rfl
theorem dp_eqV {G : Hp} {u v : V} {c d : PyData} (h1 : Dp K G u c) (h2 : Dp K G v d) (f1 : flatD c = true) (f2 : flatD d = true) : eqV u v = PyData.eqv c d := by
  cases h1 <;> cases h2 <;> first
    | (cases f1; done)
    | (cases f2; done)
    | rfl
    | (simp only [eqV, PyData.eqv]; done)
theorem flat_all {G : Hp} : ∀ {vs : List V} {ds : List PyData}, DpAll K G vs ds → ds.all flatD = true → vs.all flatV = true
  | _, _, .nil, _ => rfl
  | _, _, .cons h t, f => by
    rw [List.all_cons, Bool.and_eq_true] at f ⊢
    exact ⟨dp_flat h f.1, flat_all t f.2⟩
theorem in_all {G : Hp} {v : V} {d : PyData} (h : Dp K G v d) (f : flatD d = true) : ∀ {vs : List V} {ds : List PyData}, DpAll K G vs ds → ds.all flatD = true → inV v vs = inD d ds
  | _, _, .nil, _ => rfl
  | _, _, .cons h2 t, f2 => by
    rw [List.all_cons, Bool.and_eq_true] at f2
    have e := in_all h f t f2.2
    unfold inV inD at e ⊢
    rw [List.any_cons, List.any_cons, dp_eqV h2 h f2.1 f, e]
theorem vb_inB {neg : Bool} : VB K (rIn K neg) (p_inB neg) := by
  intro m E G0 G e σ H x y dx dy rr Q R lx ly q P
  unfold p_inB at q
  cases h : seqD dy with
  | none => simp only [h] at q; cases q
  | some ds =>
    simp only [h] at q
    by_cases z : (flatD dx && ds.all flatD) = true
    · rw [if_pos z] at q
      cases q
      obtain ⟨f1, f2⟩ := Bool.and_eq_true_iff.mp z
      have hx : Dp K G x dx := by
        rcases lx with lx | ⟨_, _, _, _, e, _⟩
        · exact lx
        · subst e
          cases f1
      have hs : ∃ p ws, y = .ref p ∧ (SqL K H p ws ∨ SqT K H p ws) ∧ DpAll K G ws ds := by
        unfold seqD at h
        split at h
        · cases h
          obtain ⟨p, ws, e, s1, k⟩ := ly.list R.gh
          exact ⟨p, ws, e, .inl s1, k⟩
        · cases h
          obtain ⟨p, ws, e, s1, k⟩ := ly.tup R.gh
          exact ⟨p, ws, e, .inr s1, k⟩
        · cases h
      obtain ⟨p, ws, e, s1, k⟩ := hs
      have ei := in_all hx f1 k f2
      refine ⟨p, ws, e, s1, dp_flat hx f1, flat_all k f2, ?_⟩
      rw [ei]
      cases neg with
      | true => exact P.now R (.bl _) True.intro
      | false => exact P.now R (.bl _) True.intro
    · rw [if_neg z] at q
      cases q
theorem lv_non {G H : Hp} {v : V} {d : PyData} (h : Lv K G H v d) : d = .none ∨ v ≠ .non := by
  rcases h with h | ⟨p, ws, ds, rfl, rfl, _⟩
  · cases h with
    | non => exact .inl rfl
    | _ => exact .inr fun z => by cases z
  · exact .inr fun z => by cases z
theorem isN_ok {neg : Bool} {a b d : PyData} {G H : Hp} {x y : V} (h : p_isN neg a b = some d) (lx : Lv K G H x a) (ly : Lv K G H y b) : y = .non ∧ d = .bool (if neg = true then !decide (x = .non) else decide (x = .non)) := by
  have hx := lv_non lx
  unfold p_isN at h
  split at h
  · have e := lx.none
    cases h
    subst e
    refine ⟨ly.none, ?_⟩
    cases neg <;> rfl
  all_goals first
    | (cases h
       refine ⟨ly.none, ?_⟩
       have z : x ≠ .non := by
         rcases hx with z | z
         · cases z
         · exact z
       rw [decide_eq_false z]
       cases neg <;> rfl)
    | (cases h; done)
theorem vb_is : VB K (fun x y H Q => (y = .non ∧ Q (.bl (decide (x = .non))) H) ∨ rIsB x y H Q) p_is :=
  VB.or (VB.pure fun G H x y dx dy d Q s lx ly h k => by
      obtain ⟨e1, rfl⟩ := isN_ok h lx ly
      exact ⟨e1, k _ (.bl _)⟩)
    (VB.pure fun G H x y dx dy d Q s lx ly h k => by
      unfold p_isB at h
      split at h
      · cases h
        exact ⟨_, _, lx.bool, ly.bool, k _ (.bl _)⟩
      · cases h)
theorem op_is2 : OpR X (compareOp .Is) (fun x y H Q => (y = .non ∧ Q (.bl (decide (x = .non))) H) ∨ rIsB x y H Q) := OpR.or op_isN op_isBl
end
end DL
namespace DL
open PySem PySem.Spec PyProof.Rows L2
def a_nil : Fa := fun e => some ([], e)
def a_cons (fa : Fe) (fr : Fa) : Fa := fun e => match fa e with
  | some (r, e1) => (match fr e1 with
    | some (rs, e2) => some (frzR r :: rs, e2)
    | none => none)
  | none => none
section
variable {X : Cx} {a : Expr} {es : List Expr} {fa : Fe} {fr : Fa} {pos : Pos}
theorem ad_nil : AD X [] a_nil := ⟨_, pa_nil, fun m E G0 G e σ H rs e' Q R q P => by
  cases q
  exact P [] G H R Stp.refl True.intro⟩
theorem ad_cons (ha : ED X a fa) (hr : AD X es fr) (hs : starEach (a :: es) X.env = (false, eval a X.env) :: starEach es X.env := by rfl) : AD X (a :: es) (a_cons fa fr) := by
  obtain ⟨t, p, k⟩ := ha
  obtain ⟨t2, p2, k2⟩ := hr
  refine ⟨_, pa_cons p p2 hs, fun m E G0 G e σ H rs e' Q R q P => ?_⟩
  unfold a_cons at q
  cases h1 : fa e with
  | none => simp only [h1] at q; cases q
  | some z =>
    obtain ⟨r, e1⟩ := z
    simp only [h1] at q
    cases h2 : fr e1 with
    | none => simp only [h2] at q; cases q
    | some z2 =>
      obtain ⟨rs2, e2⟩ := z2
      simp only [h2, Option.some.injEq, Prod.mk.injEq] at q
      obtain ⟨rfl, rfl⟩ := q
      refine k m E G0 G e σ H r e1 _ R h1 fun v G1 H1 R1 S1 V1 N1 => ?_
      obtain ⟨G1', R1', S1', s1, V1'⟩ := R1.freeze S1 V1 N1
      refine k2 m E G0 G1' e1 σ H1 rs2 e2 _ R1' h2 fun vs G2 H2 R2 S2 V2 => ?_
      exact P (v :: vs) G2 H2 R2 (S1'.trans S2) ⟨V1'.stp S2, V2⟩
end
/-- all arguments, as data -/
def argsD (fa : Fa) : Ev → Option (List PyData × Ev) := fun e => match fa e with
  | some (rs, e1) => (match lookAll e1 rs with
    | some ds => some (ds, e1)
    | none => none)
  | none => none
theorem argsD_ok {fa : Fa} {e e' : Ev} {ds : List PyData} (q : argsD fa e = some (ds, e')) : ∃ rs, fa e = some (rs, e') ∧ lookAll e' rs = some ds := by
  unfold argsD at q
  split at q
  · rename_i rs e1 h1
    split at q
    · rename_i ds2 h2
      cases q
      exact ⟨rs, h1, h2⟩
    · cases q
  · cases q
/-- every one of them is frozen data (no list of one's own) -/
def imR : Rs → Option PyData
  | .im d => some d
  | _ => none
def imAll : List Rs → Option (List PyData)
  | [] => some []
  | r :: rs => match imR r with
    | some d => (match imAll rs with
      | some ds => some (d :: ds)
      | none => none)
    | none => none
theorem vr_imAll {K : PySem.W.Frag} {E : Ef} {G H : Hp} {σ : St} {e : Ev} : ∀ {vs : List V} {rs : List Rs} {ds : List PyData}, VrAll K E G H σ e vs rs → imAll rs = some ds → DpAll K G vs ds
  | [], [], ds, _, q => by
    cases q
    exact .nil
  | v :: vs, r :: rs, ds, h, q => by
    simp only [imAll] at q
    cases r with
    | im d =>
      simp only [imR] at q
      cases h2 : imAll rs with
      | none => simp only [h2] at q; cases q
      | some ds2 =>
        simp only [h2, Option.some.injEq] at q
        subst q
        exact .cons h.1 (vr_imAll h.2 h2)
    | ac _ => simp only [imR] at q; cases q
    | br _ => simp only [imR] at q; cases q
  | [], _ :: _, _, h, _ => h.elim
  | _ :: _, [], _, h, _ => h.elim
def argsI (fa : Fa) : Ev → Option (List PyData × Ev) := fun e => match fa e with
  | some (rs, e1) => (match imAll rs with
    | some ds => some (ds, e1)
    | none => none)
  | none => none
theorem argsI_ok {fa : Fa} {e e' : Ev} {ds : List PyData} (q : argsI fa e = some (ds, e')) : ∃ rs, fa e = some (rs, e') ∧ imAll rs = some ds := by
  unfold argsI at q
  split at q
  · rename_i rs e1 h1
    split at q
    · rename_i ds2 h2
      cases q
      exact ⟨rs, h1, h2⟩
    · cases q
  · cases q
def x_tup (fa : Fa) : Fe := fun e => match argsI fa e with
  | some (ds, e1) => if okLen ds.length = true then some (.im (.tuple ds), e1) else none
  | none => none
def x_lst (fa : Fa) : Fe := fun e => match argsI fa e with
  | some (ds, e1) => if okLen ds.length = true then some (.ac ds, e1) else none
  | none => none
section
variable {X : Cx} {es : List Expr} {fa : Fa} {pos : Pos}
theorem ed_tup {n} (h : AD X es fa) : ED X (.Tuple es n pos) (x_tup fa) := by
  obtain ⟨t, p, k⟩ := h
  refine ⟨_, pe_tup p, fun m E G0 G e σ H r e' Q R q P => ?_⟩
  unfold x_tup at q
  cases h1 : argsI fa e with
  | none => simp only [h1] at q; cases q
  | some z =>
    obtain ⟨ds, e1⟩ := z
    simp only [h1] at q
    by_cases z : okLen ds.length = true
    · rw [if_pos z] at q
      simp only [Option.some.injEq, Prod.mk.injEq] at q
      obtain ⟨rfl, rfl⟩ := q
      obtain ⟨rs, q1, q2⟩ := argsI_ok h1
      refine k m E G0 G e σ H rs e1 _ R q1 fun vs G1 H1 R1 S1 V1 => ?_
      have dv := vr_imAll V1 q2
      refine ⟨by rw [dpAll_len dv]; exact okLen_ok z, fun p hp => ?_⟩
      obtain ⟨R', S', D'⟩ := R1.newT hp dv
      exact P _ _ _ R' (S1.trans S') D' True.intro
    · rw [if_neg z] at q
      cases q
theorem ed_lst (h : AD X es fa) : ED X (.List es pos) (x_lst fa) := by
  obtain ⟨t, p, k⟩ := h
  refine ⟨_, pe_lst p, fun m E G0 G e σ H r e' Q R q P => ?_⟩
  unfold x_lst at q
  cases h1 : argsI fa e with
  | none => simp only [h1] at q; cases q
  | some z =>
    obtain ⟨ds, e1⟩ := z
    simp only [h1] at q
    by_cases z : okLen ds.length = true
    · rw [if_pos z] at q
      simp only [Option.some.injEq, Prod.mk.injEq] at q
      obtain ⟨rfl, rfl⟩ := q
      obtain ⟨rs, q1, q2⟩ := argsI_ok h1
      refine k m E G0 G e σ H rs e1 _ R q1 fun vs G1 H1 R1 S1 V1 => ?_
      have dv := vr_imAll V1 q2
      refine ⟨by rw [dpAll_len dv]; exact okLen_ok z, fun p hp => ?_⟩
      obtain ⟨R', S', V', N'⟩ := R1.newL hp dv
      exact P _ _ _ R' (S1.trans S') V' (nw_back S1 _ N')
    · rw [if_neg z] at q
      cases q
/-- [..] * n -/
def x_rep (fa : Fa) (fb : Fe) : Fe := fun e => match argsI fa e with
  | some (ds, e1) => (match fb e1 with
    | some (.im (.int k), e2) => if (okLen ds.length && (decide (-9223372036854775808 ≤ k ∧ k < 9223372036854775808) && okLen (ds.length * k.toNat))) = true then some (.ac (List.replicate k.toNat ds).flatten, e2) else none
    | _ => none)
  | none => none
theorem ed_rep {b : Expr} {fb : Fe} {p1 : Pos} (h : AD X es fa) (hb : ED X b fb) : ED X (.BinOp (.List es p1) .Mult b pos) (x_rep fa fb) := by
  obtain ⟨t, p, k⟩ := h
  obtain ⟨t2, p2, k2⟩ := hb
  refine ⟨_, pe_op op_rep (pe_lst p) p2, fun m E G0 G e σ H r e' Q R q P => ?_⟩
  unfold x_rep at q
  cases h1 : argsI fa e with
  | none => simp only [h1] at q; cases q
  | some z =>
    obtain ⟨ds, e1⟩ := z
    simp only [h1] at q
    split at q
    · rename_i kk e2 h2
      by_cases z : (okLen ds.length && (decide (-9223372036854775808 ≤ kk ∧ kk < 9223372036854775808) && okLen (ds.length * kk.toNat))) = true
      · rw [if_pos z] at q
        simp only [Option.some.injEq, Prod.mk.injEq] at q
        obtain ⟨rfl, rfl⟩ := q
        obtain ⟨z1, z2⟩ := Bool.and_eq_true_iff.mp z
        obtain ⟨z2, z3⟩ := Bool.and_eq_true_iff.mp z2
        have z2 := of_decide_eq_true z2
        obtain ⟨rs, q1, q2⟩ := argsI_ok h1
        refine k m E G0 G e σ H rs e1 _ R q1 fun vs G1 H1 R1 S1 V1 => ?_
        have dv := vr_imAll V1 q2
        refine ⟨by rw [dpAll_len dv]; exact okLen_ok z1, fun p hp => ?_⟩
        obtain ⟨R', S', V', N'⟩ := R1.newL hp dv
        refine k2 m E G0 G1 e1 σ _ _ e2 _ R' h2 fun u G2 H2 R2 S2 V2 _ => ?_
        cases V2
        obtain ⟨p', ws', ep, _, g2, h3, d3, _⟩ := V'.stp S2
        cases ep
        refine ⟨_, kk, ws', rfl, rfl, h3, z2.1, z2.2, by rw [dpAll_len d3]; exact okLen_ok z3, fun p2 hp2 => ?_⟩
        obtain ⟨R3, S3, V3, N3⟩ := R2.newL hp2 (dpAll_rep d3 kk.toNat)
        exact P _ _ _ R3 (S1.trans (S'.trans (S2.trans S3))) V3 (nw_back (S1.trans (S'.trans S2)) _ N3)
      · rw [if_neg z] at q
        cases q
    · cases q
end
def p_ix : PyData → PyData → Option Rs := fun a b => match seqD a, b with
  | some ds, .int i => (atI ds i).map Rs.im
  | _, _ => none
theorem dpAll_atI {K : PySem.W.Frag} {G : Hp} {vs : List V} {ds : List PyData} {i : Int} {d : PyData} (h : DpAll K G vs ds) (q : atI ds i = some d) : ∃ v, atI vs i = some v ∧ Dp K G v d := by
  have e : atI vs i = (ixN vs.length i).bind fun j => vs[j]? := rfl
  rw [e, dpAll_len h]
  have q : ((ixN ds.length i).bind fun j => ds[j]?) = some d := q
  cases z : ixN ds.length i with
  | none => rw [z] at q; cases q
  | some j =>
    rw [z] at q
    exact dpAll_get h q
def rIx2 (K : PySem.W.Frag) : R2 := fun x y H Q => rIxL K x y H Q ∨ rIxT K x y H Q
theorem vb_ix {K : PySem.W.Frag} : VB K (rIx2 K) p_ix := by
  intro m E G0 G e σ H x y dx dy rr Q R lx ly q P
  unfold p_ix at q
  split at q
  · rename_i ds i h
    cases z : atI ds i with
    | none => rw [z] at q; cases q
    | some d =>
      rw [z] at q
      cases q
      unfold seqD at h
      split at h
      · cases h
        obtain ⟨p, ws, ex, s1, k⟩ := lx.list R.gh
        obtain ⟨v, e1, e2⟩ := dpAll_atI k z
        exact .inl ⟨p, ws, i, v, ex, ly.int, s1, e1, P.now R e2 True.intro⟩
      · cases h
        obtain ⟨p, ws, ex, s1, k⟩ := lx.tup R.gh
        obtain ⟨v, e1, e2⟩ := dpAll_atI k z
        exact .inr ⟨p, ws, i, v, ex, ly.int, s1, e1, P.now R e2 True.intro⟩
      · cases h
  · cases q
abbrev x_ix (fa fb : Fe) : Fe := x_bin p_ix fa fb
section
variable {X : Cx} {a b : Expr} {fa fb : Fe} {pos : Pos}
theorem ed_ix (ha : ED X a fa) (hb : ED X b fb) (hs : PlainIx b := by intro _ _; rfl) : ED X (.Subscript a b pos) (x_ix fa fb) := by
  obtain ⟨ta, tb, pa, pb, k2⟩ := two_ok ha hb
  exact ⟨_, pe_ix (ix_list.or ix_tup) pa pb hs, bin_ok (r := rIx2 X.K) vb_ix k2⟩
end
abbrev Fo := Ev → Option (Option Int × Ev)
structure OD (X : Cx) (o : Option Expr) (f : Fo) : Prop where
  ex : ∃ t, PO X o t ∧ ∀ (m : Option Addr) (E : Ef) (G0 G : Hp) (e : Ev) (σ : St) (H : Hp) (i : Option Int) (e' : Ev) (Q : Option Int → Hp → Prop),
    Rl X.K m E G0 G e σ H → f e = some (i, e') → (∀ G' H', Rl X.K m E G0 G' e' σ H' → Stp σ G H e G' H' e' → Q i H') → t σ H Q
def o_no : Fo := fun e => some (none, e)
def o_at (f : Fe) : Fo := fun e => match f e with
  | some (.im (.int i), e1) => some (some i, e1)
  | _ => none
def cutD {α : Type} (ds : List α) (lo hi : Option Int) : List α := (ds.drop (HT.sIx ds.length 0 lo)).take (HT.sIx ds.length ds.length hi - HT.sIx ds.length 0 lo)
def sliced (lo hi : Option Int) : PyData → Option Rs
  | .list ds => some (.ac (cutD ds lo hi))
  | .tuple ds => some (.im (.tuple (cutD ds lo hi)))
  | _ => none
def x_sl (fa : Fe) (fl fh : Fo) : Fe := fun e => match fa e with
  | some (r, e1) => (match fl e1 with
    | some (lo, e2) => (match fh e2 with
      | some (hi, e3) => (match lookR e3 (frzR r) with
        | some d => (match sliced lo hi d with
          | some r2 => some (r2, e3)
          | none => none)
        | none => none)
      | none => none)
    | none => none)
  | none => none
theorem dpAll_cut {K : PySem.W.Frag} {G : Hp} {vs : List V} {ds : List PyData} {lo hi : Option Int} (h : DpAll K G vs ds) : DpAll K G (cutV vs lo hi) (cutD ds lo hi) := by
  unfold cutV cutD
  rw [dpAll_len h]
  exact dpAll_take _ (dpAll_drop _ h)
theorem cutD_all {α : Type} {ds : List α} {lo hi : Option Int} (h1 : HT.sIx ds.length 0 lo = 0) (h2 : HT.sIx ds.length ds.length hi = ds.length) : cutD ds lo hi = ds := by
  unfold cutD
  rw [h1, h2]
  exact List.take_length
section
variable {X : Cx} {a b : Expr} {fa fb : Fe} {fl fh : Fo} {lo hi : Option Expr} {pos p2 : Pos}
theorem od_no : OD X none o_no := ⟨_, po_none, fun m E G0 G e σ H i e' Q R q P => by
  cases q
  exact P G H R Stp.refl⟩
theorem od_at (h : ED X a fa) : OD X (some a) (o_at fa) := by
  obtain ⟨t, p, k⟩ := h
  refine ⟨_, po_some p, fun m E G0 G e σ H i e' Q R q P => ?_⟩
  unfold o_at at q
  split at q
  · rename_i j e1 h1
    simp only [Option.some.injEq, Prod.mk.injEq] at q
    obtain ⟨rfl, rfl⟩ := q
    refine k m E G0 G e σ H _ e1 _ R h1 fun v G1 H1 R1 S1 V1 _ => ?_
    cases V1
    exact ⟨j, rfl, P G1 H1 R1 S1⟩
  · cases q
theorem ed_sl (ha : ED X a fa) (hl : OD X lo fl) (hh : OD X hi fh) : ED X (.Subscript a (.Slice lo hi none p2) pos) (x_sl fa fl fh) := by
  obtain ⟨t, p, k⟩ := ha
  obtain ⟨t1, q1, k1⟩ := hl
  obtain ⟨t2, q2, k2⟩ := hh
  refine ⟨_, pe_slice (sl_list.or sl_tupA) p q1 q2, fun m E G0 G e σ H r e' Q R q P => ?_⟩
  unfold x_sl at q
  cases h1 : fa e with
  | none => simp only [h1] at q; cases q
  | some z =>
    obtain ⟨r0, e1⟩ := z
    simp only [h1] at q
    cases h2 : fl e1 with
    | none => simp only [h2] at q; cases q
    | some z =>
      obtain ⟨i, e2⟩ := z
      simp only [h2] at q
      cases h3 : fh e2 with
      | none => simp only [h3] at q; cases q
      | some z =>
        obtain ⟨j, e3⟩ := z
        simp only [h3] at q
        cases h4 : lookR e3 (frzR r0) with
        | none => simp only [h4] at q; cases q
        | some d =>
          simp only [h4] at q
          cases h5 : sliced i j d with
          | none => simp only [h5] at q; cases q
          | some r2 =>
            simp only [h5, Option.some.injEq, Prod.mk.injEq] at q
            obtain ⟨rfl, rfl⟩ := q
            refine k m E G0 G e σ H r0 e1 _ R h1 fun v G1 H1 R1 S1 V1 N1 => ?_
            obtain ⟨G1', R1', S1', s1, V1'⟩ := R1.freeze S1 V1 N1
            refine k1 m E G0 G1' e1 σ H1 i e2 _ R1' h2 fun G2 H2 R2 S2 => ?_
            refine k2 m E G0 G2 e2 σ H2 j e3 _ R2 h3 fun G3 H3 R3 S3 => ?_
            have L := R3.look ((V1'.stp S2).stp S3) h4
            have S := S1'.trans (S2.trans S3)
            unfold sliced at h5
            split at h5
            · cases h5
              obtain ⟨p', ws, ex, s2, dk⟩ := L.list R3.gh
              refine .inl ⟨p', ws, ex, s2, fun p hp => ?_⟩
              obtain ⟨R', S', V', N'⟩ := R3.newL hp (dpAll_cut dk)
              exact P _ _ _ R' (S.trans S') V' (nw_back S _ N')
            · cases h5
              rename_i ds
              obtain ⟨p', ws, ex, s2, dk⟩ := L.tup R3.gh
              refine .inr ⟨p', ws, ex, s2, fun hw => ?_, fun _ p hp => ?_⟩
              · rw [dpAll_len dk] at hw
                rw [cutD_all hw.1 hw.2] at P
                rcases L with L | ⟨_, _, _, _, z, _⟩
                · rw [← ex]
                  exact P _ _ _ R3 S L True.intro
                · cases z
              · obtain ⟨R', S', D'⟩ := R3.newT hp (dpAll_cut dk)
                exact P _ _ _ R' (S.trans S') D' True.intro
            · cases h5
/-- -n -/
def x_neg (fa : Fe) : Fe := fun e => match fa e with
  | some (.im (.int i), e1) => some (.im (.int (-i)), e1)
  | _ => none
theorem ed_neg (ha : ED X a fa) : ED X (.UnaryOp .USub a pos) (x_neg fa) := by
  obtain ⟨t, p, k⟩ := ha
  refine ⟨_, pe_un un_neg p, fun m E G0 G e σ H r e' Q R q P => ?_⟩
  unfold x_neg at q
  split at q
  · rename_i i e1 h1
    cases q
    refine k m E G0 G e σ H _ _ _ R h1 fun v G1 H1 R1 S1 V1 _ => ?_
    cases V1
    exact ⟨i, rfl, P _ _ _ R1 S1 (.int _) True.intro⟩
  · cases q
end
/-- an n-place rule by values, over data -/
def VC (K : PySem.W.Frag) (r : List V → Hp → VK → Prop) (φ : List PyData → Option Rs) : Prop :=
  ∀ (m : Option Addr) (E : Ef) (G0 G : Hp) (e : Ev) (σ : St) (H : Hp) (vs : List V) (ds : List PyData) (rr : Rs) (Q : VK), Rl K m E G0 G e σ H → LvAll K G H vs ds → φ ds = some rr → Po K m E G0 σ G H e rr e Q → r vs H Q
def orC {α γ : Type} (φ ψ : α → Option γ) : α → Option γ := fun a => match φ a with
  | some r => some r
  | none => ψ a
theorem VC.or {K : PySem.W.Frag} {r r' : List V → Hp → VK → Prop} {φ ψ : List PyData → Option Rs} (h : VC K r φ) (h' : VC K r' ψ) : VC K (fun vs H Q => r vs H Q ∨ r' vs H Q) (orC φ ψ) := by
  intro m E G0 G e σ H vs ds rr Q R l q P
  unfold orC at q
  cases h1 : φ ds with
  | some r1 =>
    simp only [h1, Option.some.injEq] at q
    subst q
    exact .inl (h m E G0 G e σ H vs ds _ Q R l h1 P)
  | none =>
    simp only [h1] at q
    exact .inr (h' m E G0 G e σ H vs ds rr Q R l q P)
def x_cb (φ : List PyData → Option Rs) (fa : Fa) : Fe := fun e => match argsD fa e with
  | some (ds, e1) => (match φ ds with
    | some r => some (r, e1)
    | none => none)
  | none => none
section
variable {X : Cx} {a : Expr} {es : List Expr} {fa : Fa} {pos p : Pos} {x : Str} {id T : String} {r : List V → Hp → VK → Prop} {φ : List PyData → Option Rs}
theorem cb_ok {t : TA} (hv : VC X.K r φ) (k : ∀ (m : Option Addr) (E : Ef) (G0 G : Hp) (e : Ev) (σ : St) (H : Hp) (rs : List Rs) (e' : Ev) (Q : List V → Hp → Prop),
    Rl X.K m E G0 G e σ H → fa e = some (rs, e') → (∀ vs G' H', Rl X.K m E G0 G' e' σ H' → Stp σ G H e G' H' e' → VrAll X.K E G' H' σ e' vs rs → Q vs H') → t σ H Q)
    (m : Option Addr) (E : Ef) (G0 G : Hp) (e : Ev) (σ : St) (H : Hp) (rr : Rs) (e' : Ev) (Q : VK) (R : Rl X.K m E G0 G e σ H) (q : x_cb φ fa e = some (rr, e')) (P : Po X.K m E G0 σ G H e rr e' Q) : tCB r t σ H Q := by
  unfold x_cb at q
  cases h1 : argsD fa e with
  | none => simp only [h1] at q; cases q
  | some z =>
    obtain ⟨ds, e1⟩ := z
    simp only [h1] at q
    cases h2 : φ ds with
    | none => simp only [h2] at q; cases q
    | some r2 =>
      simp only [h2, Option.some.injEq, Prod.mk.injEq] at q
      obtain ⟨rfl, rfl⟩ := q
      obtain ⟨rs, q1, q2⟩ := argsD_ok h1
      exact k m E G0 G e σ H rs e1 _ R q1 fun vs G1 H1 R1 S1 V1 => hv m E G0 G1 e1 σ H1 vs ds _ Q R1 (R1.lookAll V1 q2) h2 (P.aft S1)
theorem ed_cb (hv : VC X.K r φ) (hc : CallR X (.builtin id) r) (hm : X.mg x = none) (h : AD X (a :: es) fa) (hb : bootBuiltins x = some (.builtin id) := by decide +kernel) (hg : Gl X x := by rfl) (hn : x ≠ "__name__" := by decide) (hdb : (x == ("__debug__" : Str)) = false := by decide)
    (he : starEach (a :: es) X.env = (false, eval a X.env) :: starEach es X.env := by rfl) (hpl : (backTo pos (starEach es X.env)).any (·.1) = false := by rfl) : ED X (.Call (.Name x p) (a :: es) [] pos) (x_cb φ fa) := by
  obtain ⟨t, pa, k⟩ := h
  exact ⟨_, pe_callB hc hg hm hb pa hn hdb he hpl, cb_ok hv k⟩
theorem ed_ct (hv : VC X.K r φ) (hc : CallR X (.type T) r) (hm : X.mg x = none) (h : AD X (a :: es) fa) (hb : bootBuiltins x = some (.type T) := by decide +kernel) (hg : Gl X x := by rfl) (hn : x ≠ "__name__" := by decide) (hdb : (x == ("__debug__" : Str)) = false := by decide)
    (he : starEach (a :: es) X.env = (false, eval a X.env) :: starEach es X.env := by rfl) (hpl : (backTo pos (starEach es X.env)).any (·.1) = false := by rfl) : ED X (.Call (.Name x p) (a :: es) [] pos) (x_cb φ fa) := by
  obtain ⟨t, pa, k⟩ := h
  exact ⟨_, pe_callTy hc hg hm hb pa hn hdb he hpl, cb_ok hv k⟩
end
theorem lv1 {K : PySem.W.Frag} {G H : Hp} {vs : List V} {d : PyData} (h : LvAll K G H vs [d]) : ∃ v, vs = [v] ∧ Lv K G H v d := by
  match vs, h with
  | [v], h => exact ⟨v, rfl, h.1⟩
  | _ :: _ :: _, h => exact h.2.elim
theorem lv2 {K : PySem.W.Frag} {G H : Hp} {vs : List V} {c d : PyData} (h : LvAll K G H vs [c, d]) : ∃ u v, vs = [u, v] ∧ Lv K G H u c ∧ Lv K G H v d := by
  match vs, h with
  | [u, v], h => exact ⟨u, v, rfl, h.1, h.2.1⟩
  | _ :: _ :: _ :: _, h => exact h.2.2.elim
  | [_], h => exact h.2.elim
def c_len : List PyData → Option Rs
  | [.list ds] => some (.im (.int ds.length))
  | [.tuple ds] => some (.im (.int ds.length))
  | _ => none
def c_max2 : List PyData → Option Rs
  | [.int i, .int j] => some (.im (.int (if j > i then j else i)))
  | _ => none
def c_min2 : List PyData → Option Rs
  | [.int i, .int j] => some (.im (.int (if j < i then j else i)))
  | _ => none
def c_int : List PyData → Option Rs
  | [.int i] => some (.im (.int i))
  | [.bool k] => some (.im (.int (if k = true then 1 else 0)))
  | _ => none
def c_list : List PyData → Option Rs
  | [.list ds] => some (.ac ds)
  | [.tuple ds] => some (.ac ds)
  | _ => none
def c_tuple : List PyData → Option Rs
  | [.list ds] => some (.im (.tuple ds))
  | [.tuple ds] => some (.im (.tuple ds))
  | _ => none
section
variable {K : PySem.W.Frag} {X : Cx}
theorem vc_len : VC K (fun xs H Q => ∃ p ys, xs = [.ref p] ∧ (SqL K H p ys ∨ SqT K H p ys) ∧ Q (.int ys.length) H) c_len := by
  intro m E G0 G e σ H vs ds rr Q R l q P
  unfold c_len at q
  split at q
  · cases q
    obtain ⟨v, rfl, lv⟩ := lv1 l
    obtain ⟨p, ws, rfl, s1, k⟩ := lv.list R.gh
    refine ⟨p, ws, rfl, .inl s1, ?_⟩
    rw [dpAll_len k]
    exact P.now R (.int _) True.intro
  · cases q
    obtain ⟨v, rfl, lv⟩ := lv1 l
    obtain ⟨p, ws, rfl, s1, k⟩ := lv.tup R.gh
    refine ⟨p, ws, rfl, .inr s1, ?_⟩
    rw [dpAll_len k]
    exact P.now R (.int _) True.intro
  · cases q
theorem vc_max2 : VC K (fun xs H Q => ∃ i j, xs = [.int i, .int j] ∧ Q (.int (if j > i then j else i)) H) c_max2 := by
  intro m E G0 G e σ H vs ds rr Q R l q P
  unfold c_max2 at q
  split at q
  · cases q
    obtain ⟨u, v, rfl, l1, l2⟩ := lv2 l
    exact ⟨_, _, by rw [l1.int, l2.int], P.now R (.int _) True.intro⟩
  · cases q
theorem vc_min2 : VC K (fun xs H Q => ∃ i j, xs = [.int i, .int j] ∧ Q (.int (if j < i then j else i)) H) c_min2 := by
  intro m E G0 G e σ H vs ds rr Q R l q P
  unfold c_min2 at q
  split at q
  · cases q
    obtain ⟨u, v, rfl, l1, l2⟩ := lv2 l
    exact ⟨_, _, by rw [l1.int, l2.int], P.now R (.int _) True.intro⟩
  · cases q
theorem vc_int : VC K (fun xs H Q => (∃ i, xs = [.int i] ∧ Q (.int i) H) ∨ ∃ k, xs = [.bl k] ∧ Q (.int (if k then 1 else 0)) H) c_int := by
  intro m E G0 G e σ H vs ds rr Q R l q P
  unfold c_int at q
  split at q
  · cases q
    obtain ⟨v, rfl, lv⟩ := lv1 l
    exact .inl ⟨_, by rw [lv.int], P.now R (.int _) True.intro⟩
  · cases q
    obtain ⟨v, rfl, lv⟩ := lv1 l
    exact .inr ⟨_, by rw [lv.bool], P.now R (.int _) True.intro⟩
  · cases q
theorem vc_list : VC K (fun xs H Q => ∃ p ys, xs = [.ref p] ∧ (SqL K H p ys ∨ SqT K H p ys) ∧ ∀ l, H l = none → Q (.ref l) (upd H l (.lst ys))) c_list := by
  intro m E G0 G e σ H vs ds rr Q R l q P
  unfold c_list at q
  split at q
  · cases q
    obtain ⟨v, rfl, lv⟩ := lv1 l
    obtain ⟨p, ws, rfl, s1, k⟩ := lv.list R.gh
    refine ⟨p, ws, rfl, .inl s1, fun p2 hp => ?_⟩
    obtain ⟨R', S', V', N'⟩ := R.newL hp k
    exact P _ _ _ R' S' V' N'
  · cases q
    obtain ⟨v, rfl, lv⟩ := lv1 l
    obtain ⟨p, ws, rfl, s1, k⟩ := lv.tup R.gh
    refine ⟨p, ws, rfl, .inr s1, fun p2 hp => ?_⟩
    obtain ⟨R', S', V', N'⟩ := R.newL hp k
    exact P _ _ _ R' S' V' N'
  · cases q
theorem vc_tuple : VC K (fun xs H Q => ∃ p ys, xs = [.ref p] ∧ ((SqL K H p ys ∧ ∀ l, H l = none → Q (.ref l) (upd H l (.tup ys))) ∨ (SqT K H p ys ∧ Q (.ref p) H))) c_tuple := by
  intro m E G0 G e σ H vs ds rr Q R l q P
  unfold c_tuple at q
  split at q
  · cases q
    obtain ⟨v, rfl, lv⟩ := lv1 l
    obtain ⟨p, ws, rfl, s1, k⟩ := lv.list R.gh
    refine ⟨p, ws, rfl, .inl ⟨s1, fun p2 hp => ?_⟩⟩
    obtain ⟨R', S', D'⟩ := R.newT hp k
    exact P _ _ _ R' S' D' True.intro
  · cases q
    obtain ⟨v, rfl, lv⟩ := lv1 l
    obtain ⟨p, ws, rfl, s1, k⟩ := lv.tup R.gh
    refine ⟨p, ws, rfl, .inr ⟨s1, ?_⟩⟩
    rcases lv with lv | ⟨_, _, _, _, z, _⟩
    · exact P.now R lv True.intro
    · cases z
  · cases q
end
end DL
namespace DL
open PySem PySem.Spec PyProof.Rows L2
inductive Ty where
  | int | bool | str | tuple | list
def Ty.nm : Ty → String
  | .int => "int"
  | .bool => "bool"
  | .str => "str"
  | .tuple => "tuple"
  | .list => "list"
def isD : Ty → PyData → Option Bool
  | _, .dict _ => none
  | .int, .int _ => some true
  | .int, .bool _ => some true
  | .bool, .bool _ => some true
  | .str, .str _ => some true
  | .tuple, .tuple _ => some true
  | .list, .list _ => some true
  | _, _ => some false
def tyN : PyData → String
  | .none => "NoneType"
  | .bool _ => "bool"
  | .int _ => "int"
  | .str _ => "str"
  | .list _ => "list"
  | .tuple _ => "tuple"
  | .dict _ => "dict"
theorem isD_ok {T : Ty} {d : PyData} {b : Bool} (h : isD T d = some b) : kitB (tyN d) T.nm = some b := by
  cases d <;> cases T <;> first
    | (cases h; done)
    | (cases h; simp only [tyN, Ty.nm]; decide +kernel)
theorem lv_ty {K : PySem.W.Frag} {G H : Hp} {v : V} {d : PyData} (s : Same G H) (h : Lv K G H v d) : TyX K H v (.type (tyN d)) := by
  have h := h.dp s
  cases h with
  | non => exact .base .non
  | bl b => exact .base (.bl b)
  | int i => exact .base (.int i)
  | str x => exact .base (.str x)
  | lst h1 _ =>
    rcases h1 with (h2 | ⟨o, h2⟩) | ⟨o, its, n, hk, hc, _⟩
    · exact .base (.lst h2)
    · exact .base (.frz h2)
    · exact .kList hk hc
  | tup h1 _ =>
    rcases h1 with (h2 | ⟨o, h2⟩) | ⟨o, its, n, hk, hc, _⟩
    · exact .base (.tup h2)
    · exact .fTuple h2
    · exact .kTuple hk hc
def x_isi (T : Ty) (f : Fe) : Fe := fun e => match f e with
  | some (r, e1) => (match lookR e1 (frzR r) with
    | some d => (match isD T d with
      | some b => some (.im (.bool b), e1)
      | none => none)
    | none => none)
  | none => none
section
variable {X : Cx} {a : Expr} {fa : Fe} {pos p p2 : Pos}
theorem ed_isi (T : Ty) (ha : ED X a fa) {y : Str} (hm : X.mg "isinstance" = none) (hmT : X.mg y = none) (hy : y = Str.ofString T.nm := by rfl) (hb : bootBuiltins y = some (.type T.nm) := by decide +kernel) (hg : Gl X "isinstance" := by rfl) (hgT : Gl X y := by rfl)
    (hny : y ≠ "__name__" := by decide) (hdy : (y == ("__debug__" : Str)) = false := by decide)
    (h1 : starEach [.Name y p2] X.env = (false, eval (.Name y p2) X.env) :: starEach [] X.env := by rfl)
    (he : starEach [a, .Name y p2] X.env = (false, eval a X.env) :: starEach [.Name y p2] X.env := by rfl) (hpl : (backTo pos (starEach [.Name y p2] X.env)).any (·.1) = false := by rfl) :
    ED X (.Call (.Name "isinstance" p) [a, .Name y p2] [] pos) (x_isi T fa) := by
  obtain ⟨t, pa, k⟩ := ha
  refine ⟨_, pe_callB call_isi hg hm (by decide +kernel) (pa_cons pa (pa_cons (pe_bltn (v := .ty T.nm) hgT hmT hb rfl hny hdy) pa_nil h1) he) (by decide) (by decide) he hpl, fun m E G0 G e σ H r e' Q R q P => ?_⟩
  unfold x_isi at q
  cases h1 : fa e with
  | none => simp only [h1] at q; cases q
  | some z =>
    obtain ⟨r0, e1⟩ := z
    simp only [h1] at q
    cases h4 : lookR e1 (frzR r0) with
    | none => simp only [h4] at q; cases q
    | some d =>
      simp only [h4] at q
      cases h5 : isD T d with
      | none => simp only [h5] at q; cases q
      | some b =>
        simp only [h5, Option.some.injEq, Prod.mk.injEq] at q
        obtain ⟨rfl, rfl⟩ := q
        refine k m E G0 G e σ H r0 e1 _ R h1 fun v G1 H1 R1 S1 V1 N1 => ?_
        obtain ⟨G1', R1', S1', s1, V1'⟩ := R1.freeze S1 V1 N1
        have L := R1'.look V1' h4
        exact ⟨v, .ty T.nm, .type (tyN d), .type T.nm, b, rfl, .ty _, lv_ty R1'.gh L, kit_ty (isD_ok h5), P _ _ _ R1' S1' (.bl _) True.intro⟩
end
def unI : List PyData → Option (List Int)
  | [] => some []
  | .int i :: ds => (unI ds).map (i :: ·)
  | _ :: _ => none
def unB : List PyData → Option (List Bool)
  | [] => some []
  | .bool b :: ds => (unB ds).map (b :: ·)
  | _ :: _ => none
theorem unI_ok : ∀ {ds : List PyData} {ns : List Int}, unI ds = some ns → ds = ns.map PyData.int
  | [], ns, h => by
    cases h
    rfl
  | d :: ds, ns, h => by
    cases d with
    | int i =>
      simp only [unI] at h
      cases z : unI ds with
      | none => rw [z] at h; cases h
      | some ms =>
        rw [z] at h
        cases h
        rw [unI_ok z]
        rfl
    | _ => simp only [unI] at h; cases h
theorem unB_ok : ∀ {ds : List PyData} {ns : List Bool}, unB ds = some ns → ds = ns.map PyData.bool
  | [], ns, h => by
    cases h
    rfl
  | d :: ds, ns, h => by
    cases d with
    | bool i =>
      simp only [unB] at h
      cases z : unB ds with
      | none => rw [z] at h; cases h
      | some ms =>
        rw [z] at h
        cases h
        rw [unB_ok z]
        rfl
    | _ => simp only [unB] at h; cases h
theorem unB_map : ∀ ns : List Bool, unB (ns.map PyData.bool) = some ns
  | [] => rfl
  | n :: ns => by
    show (unB (ns.map PyData.bool)).map (n :: ·) = _
    rw [unB_map ns]
    rfl
theorem dp_ints {K : PySem.W.Frag} {G : Hp} : ∀ {vs : List V} {ns : List Int}, DpAll K G vs (ns.map PyData.int) → vs = ns.map V.int
  | [], [], _ => rfl
  | [], _ :: _, h => by cases h
  | _ :: _, [], h => by cases h
  | v :: vs, n :: ns, h => by
    cases h with
    | cons h t =>
      cases h
      rw [dp_ints t]
      rfl
theorem dp_bools {K : PySem.W.Frag} {G : Hp} : ∀ {vs : List V} {ns : List Bool}, DpAll K G vs (ns.map PyData.bool) → vs = ns.map V.bl
  | [], [], _ => rfl
  | [], _ :: _, h => by cases h
  | _ :: _, [], h => by cases h
  | v :: vs, n :: ns, h => by
    cases h with
    | cons h t =>
      cases h
      rw [dp_bools t]
      rfl
/-- the greatest, the least of what is there -/
def maxI : List Int → Int
  | [] => 0
  | [a] => a
  | a :: b :: r => max a (maxI (b :: r))
theorem maxI_uniq : ∀ {ns : List Int} {m : Int}, m ∈ ns → (∀ y, y ∈ ns → y ≤ m) → m = maxI ns
  | [], _, h, _ => by cases h
  | [a], m, h, _ => by simpa [maxI] using h
  | a :: b :: r, m, h, k => by
    show m = max a (maxI (b :: r))
    have ka := k a List.mem_cons_self
    have mem : maxI (b :: r) ∈ (b :: r) := by
      have : ∀ (l : List Int), l ≠ [] → maxI l ∈ l := by
        intro l
        induction l with
        | nil => intro z; exact absurd rfl z
        | cons x l ih =>
          intro _
          cases l with
          | nil => simp [maxI]
          | cons y l =>
            have q := ih (by simp)
            show max x (maxI (y :: l)) ∈ _
            by_cases z : x ≤ maxI (y :: l)
            · rw [show max x (maxI (y :: l)) = maxI (y :: l) by omega]
              exact List.mem_cons_of_mem _ q
            · rw [show max x (maxI (y :: l)) = x by omega]
              exact List.mem_cons_self
      exact this _ (by simp)
    have kb := k _ (List.mem_cons_of_mem _ mem)
    rcases List.mem_cons.mp h with e | h'
    · omega
    · have q := maxI_uniq h' fun y hy => k y (List.mem_cons_of_mem _ hy)
      omega
def c_intsL (g : List Int → Option Rs) : List PyData → Option Rs
  | [.list ds] => (match unI ds with
    | some ns => g ns
    | none => none)
  | _ => none
def c_max : List PyData → Option Rs := c_intsL fun ns => if ns.isEmpty = true then none else some (.im (.int (maxI ns)))
def c_all : List PyData → Option Rs
  | [.list ds] => (match unB ds with
    | some bs => some (.im (.bool (bs.all id)))
    | none => none)
  | _ => none
/-- sorted, ascending, falling, by insertion (what the kernel can reckon) -/
def insB {α : Type} (le : α → α → Bool) (x : α) : List α → List α
  | [] => [x]
  | y :: l => match le x y with
    | true => x :: y :: l
    | false => y :: insB le x l
def sortB {α : Type} (le : α → α → Bool) : List α → List α
  | [] => []
  | x :: l => insB le x (sortB le l)
theorem insB_perm {α : Type} (le : α → α → Bool) (x : α) : ∀ l : List α, (insB le x l).Perm (x :: l)
  | [] => List.Perm.refl _
  | y :: l => by
    unfold insB
    split
    · exact List.Perm.refl _
    · exact (List.Perm.cons _ (insB_perm le x l)).trans (List.Perm.swap ..)
theorem sortB_perm {α : Type} (le : α → α → Bool) : ∀ l : List α, (sortB le l).Perm l
  | [] => List.Perm.refl _
  | x :: l => (insB_perm le x _).trans (List.Perm.cons _ (sortB_perm le l))
theorem insB_pw {α : Type} {le : α → α → Bool} (tr : ∀ a b c, le a b = true → le b c = true → le a c = true) (to : ∀ a b, (le a b || le b a) = true) (x : α) : ∀ {l : List α}, l.Pairwise (fun a b => le a b = true) → (insB le x l).Pairwise (fun a b => le a b = true)
  | [], _ => List.pairwise_singleton _ _
  | y :: l, h => by
    obtain ⟨h1, h2⟩ := List.pairwise_cons.mp h
    unfold insB
    split
    · rename_i e
      refine List.pairwise_cons.mpr ⟨fun z hz => ?_, h⟩
      rcases List.mem_cons.mp hz with q | q
      · rw [q]; exact e
      · exact tr _ _ _ e (h1 z q)
    · rename_i e
      refine List.pairwise_cons.mpr ⟨fun z hz => ?_, insB_pw tr to x h2⟩
      rcases List.mem_cons.mp ((insB_perm le x l).mem_iff.mp hz) with q | q
      · rw [q]
        have := to x y
        rwa [e, Bool.false_or] at this
      · exact h1 z q
theorem sortB_pw {α : Type} {le : α → α → Bool} (tr : ∀ a b c, le a b = true → le b c = true → le a c = true) (to : ∀ a b, (le a b || le b a) = true) : ∀ l : List α, (sortB le l).Pairwise (fun a b => le a b = true)
  | [] => .nil
  | x :: l => insB_pw tr to x (sortB_pw tr to l)
def upI (ns : List Int) : List Int := sortB (fun a b => decide (a ≤ b)) ns
def downI (ns : List Int) : List Int := sortB (fun a b => decide (b ≤ a)) ns
theorem upI_uniq {ns ms : List Int} (h : ms.Perm ns) (k : ms.Pairwise (· ≤ ·)) : ms = upI ns := by
  have p1 : (upI ns).Perm ns := sortB_perm _ ns
  have s1 : (upI ns).Pairwise (fun a b => decide (a ≤ b) = true) := sortB_pw (fun a b c h1 h2 => by simp at *; omega) (fun a b => by simp; omega) ns
  refine List.Perm.eq_of_pairwise (le := (· ≤ ·)) (fun a b _ _ h1 h2 => by omega) k (s1.imp fun h => of_decide_eq_true h) (h.trans p1.symm)
def c_sortedI : List PyData → Option Rs := c_intsL fun ns => some (.ac ((upI ns).map PyData.int))
section
variable {K : PySem.W.Frag} {X : Cx}
theorem intsL_ok {g : List Int → Option Rs} {ds : List PyData} {r : Rs} (q : c_intsL g ds = some r) : ∃ ns, ds = [.list (ns.map PyData.int)] ∧ g ns = some r := by
  unfold c_intsL at q
  split at q
  · rename_i es
    cases z : unI es with
    | none => simp only [z] at q; cases q
    | some ns =>
      simp only [z] at q
      exact ⟨ns, by rw [unI_ok z], q⟩
  · cases q
theorem lv_ints {G H : Hp} {vs : List V} {ns : List Int} (s : Same G H) (l : LvAll K G H vs [.list (ns.map PyData.int)]) : ∃ p, vs = [.ref p] ∧ SqL K H p (ns.map V.int) := by
  obtain ⟨v, rfl, lv⟩ := lv1 l
  obtain ⟨p, ws, rfl, s1, k⟩ := lv.list s
  rw [dp_ints k] at s1
  exact ⟨p, rfl, s1⟩
theorem vc_max : VC K (rMax K) c_max := by
  intro m E G0 G e σ H vs ds rr Q R l q P
  obtain ⟨ns, rfl, q2⟩ := intsL_ok q
  clear q
  obtain ⟨p, rfl, s1⟩ := lv_ints R.gh l
  cases ns with
  | nil => cases q2
  | cons a r =>
    cases q2
    refine ⟨p, _, rfl, s1, Nat.succ_pos _, fun M h1 h2 => ?_⟩
    rw [maxI_uniq h1 h2]
    exact P.now R (.int _) True.intro
theorem vc_sortedI : VC K (rSortedI K) c_sortedI := by
  intro m E G0 G e σ H vs ds rr Q R l q P
  obtain ⟨ns, rfl, q2⟩ := intsL_ok q
  clear q
  obtain ⟨p, rfl, s1⟩ := lv_ints R.gh l
  cases q2
  refine ⟨p, _, rfl, s1, fun ns' p2 h1 h2 hp => ?_⟩
  rw [upI_uniq h1 h2]
  obtain ⟨R', S', V', N'⟩ := R.newL hp (dpAll_ints (K := K) (G := G) (upI ns))
  exact P _ _ _ R' S' V' N'
theorem vc_all : VC K (rAll K) c_all := by
  intro m E G0 G e σ H vs ds rr Q R l q P
  unfold c_all at q
  split at q
  · rename_i es
    cases z : unB es with
    | none => simp only [z] at q; cases q
    | some bs =>
      simp only [z, Option.some.injEq] at q
      subst q
      obtain ⟨v, rfl, lv⟩ := lv1 l
      obtain ⟨p, ws, rfl, s1, k⟩ := lv.list R.gh
      rw [unB_ok z] at k
      rw [dp_bools k] at s1
      exact ⟨p, bs, rfl, s1, P.now R (.bl _) True.intro⟩
  · cases q
end
end DL
namespace DL
open PySem PySem.Spec PyProof.Rows L2 RT RZ
def teOf (K : PySem.W.Frag) (f : Fe) : TE := fun σ H Q => ∃ m E G0 G e r e', Rl K m E G0 G e σ H ∧ f e = some (r, e') ∧ Po K m E G0 σ G H e r e' Q
def ttOf (K : PySem.W.Frag) (f : Ft) : TT := fun σ H Q => ∃ m E G0 G e b e', Rl K m E G0 G e σ H ∧ f e = some (b, e') ∧ ∀ G' H', Rl K m E G0 G' e' σ H' → Stp σ G H e G' H' e' → Q b H'
theorem ED.can {X : Cx} {x : Expr} {f : Fe} (h : ED X x f) : PE X x (teOf X.K f) := by
  obtain ⟨t, p, k⟩ := h
  refine ⟨fun pins s σ H Q I q => p.run pins s σ H Q I ?_⟩
  obtain ⟨m, E, G0, G, e, r, e', R, q, P⟩ := q
  exact k m E G0 G e σ H r e' Q R q P
theorem TD.can {X : Cx} {x : Expr} {f : Ft} (h : TD X x f) : PT X x (ttOf X.K f) := by
  obtain ⟨t, p, k⟩ := h
  refine ⟨fun pins s σ H Q I q => p.run pins s σ H Q I ?_⟩
  obtain ⟨m, E, G0, G, e, b, e', R, q, P⟩ := q
  exact k m E G0 G e σ H b e' Q R q P
section
variable {K : PySem.W.Frag} {m : Option Addr} {E : Ef} {G0 G H : Hp} {e : Ev} {σ : St} {v : V} {d : PyData}
theorem set_get {α : Type} {l : List α} {i j : Nat} {a : α} : (l.set i a)[j]? = if i = j ∧ j < l.length then some a else l[j]? := by
  rw [List.getElem?_set]
  by_cases h : i = j
  · subst h
    by_cases k : i < l.length
    · simp [k]
    · simp [k]
  · simp [h]
theorem Rl.setI (R : Rl K m E G0 G e σ H) (i : Nat) (h : Dp K G v d) : Rl K m E G0 G (e.set i (some (.im d))) (σ.set i (some v)) H := by
  have hl := R.len
  refine ⟨R.gg, R.gh, R.eh, R.mh, R.nw, by rw [List.length_set, List.length_set]; exact hl, fun j d' q => ?_, fun j ds q => ?_, fun j k dj dk p q1 q2 q3 q4 => ?_, fun j dss q => ?_⟩
  · rw [set_get] at q ⊢
    by_cases z : i = j ∧ j < e.length
    · rw [if_pos z] at q
      cases q
      rw [if_pos ⟨z.1, by omega⟩]
      exact ⟨v, rfl, h⟩
    · rw [if_neg z] at q
      rw [if_neg (by omega)]
      exact R.im j d' q
  · rw [set_get] at q ⊢
    by_cases z : i = j ∧ j < e.length
    · rw [if_pos z] at q
      cases q
    · rw [if_neg z] at q
      rw [if_neg (by omega)]
      exact R.ac j ds q
  · rw [set_get] at q1 q2 q3 q4
    by_cases z1 : i = j ∧ j < e.length
    · rw [if_pos z1] at q1
      cases q1
    · by_cases z2 : i = k ∧ k < e.length
      · rw [if_pos z2] at q2
        cases q2
      · rw [if_neg z1] at q1
        rw [if_neg z2] at q2
        rw [if_neg (by omega)] at q3
        rw [if_neg (by omega)] at q4
        exact R.inj j k dj dk p q1 q2 q3 q4
  · rw [set_get] at q ⊢
    by_cases z : i = j ∧ j < e.length
    · rw [if_pos z] at q
      cases q
      exact True.intro
    · rw [if_neg z] at q
      rw [if_neg (by omega)]
      exact R.ot j dss q
theorem Rl.setA {ds : List PyData} (R : Rl K m E G0 G e σ H) (i : Nat) (h : Vr K E G H σ e v (.ac ds)) : Rl K m E G0 G (e.set i (some (.ac ds))) (σ.set i (some v)) H := by
  have hl := R.len
  obtain ⟨p0, ws0, rfl, h1, h2, h3, h4, h5⟩ := h
  refine ⟨R.gg, R.gh, R.eh, R.mh, R.nw, by rw [List.length_set, List.length_set]; exact hl, fun j d' q => ?_, fun j ds q => ?_, fun j k dj dk p q1 q2 q3 q4 => ?_, fun j dss q => ?_⟩
  · rw [set_get] at q ⊢
    by_cases z : i = j ∧ j < e.length
    · rw [if_pos z] at q
      cases q
    · rw [if_neg z] at q
      rw [if_neg (by omega)]
      exact R.im j d' q
  · rw [set_get] at q ⊢
    by_cases z : i = j ∧ j < e.length
    · rw [if_pos z] at q
      cases q
      rw [if_pos ⟨z.1, by omega⟩]
      exact ⟨p0, ws0, rfl, h2, h3, h4, .inl h1⟩
    · rw [if_neg z] at q
      rw [if_neg (by omega)]
      exact R.ac j ds q
  · rw [set_get] at q1 q2 q3 q4
    by_cases z1 : i = j ∧ j < e.length
    · rw [if_pos ⟨z1.1, by omega⟩] at q3
      cases q3
      by_cases z2 : i = k ∧ k < e.length
      · omega
      · rw [if_neg z2] at q2
        rw [if_neg (by omega)] at q4
        exact absurd ⟨k, dk, q2, q4⟩ h5
    · by_cases z2 : i = k ∧ k < e.length
      · rw [if_pos ⟨z2.1, by omega⟩] at q4
        cases q4
        rw [if_neg z1] at q1
        rw [if_neg (by omega)] at q3
        exact absurd ⟨j, dj, q1, q3⟩ h5
      · rw [if_neg z1] at q1
        rw [if_neg z2] at q2
        rw [if_neg (by omega)] at q3
        rw [if_neg (by omega)] at q4
        exact R.inj j k dj dk p q1 q2 q3 q4
  · rw [set_get] at q ⊢
    by_cases z : i = j ∧ j < e.length
    · rw [if_pos z] at q
      cases q
      exact True.intro
    · rw [if_neg z] at q
      rw [if_neg (by omega)]
      exact R.ot j dss q
/-- slots forgotten -/
theorem Rl.forget {e' : Ev} {σ' : St} (R : Rl K m E G0 G e σ H) (hl : e'.length = e.length) (hs : σ'.length = σ.length) (h : ∀ (i : Nat) (s : Sl), e'[i]? = some (some s) → e[i]? = some (some s) ∧ σ'[i]? = σ[i]?) : Rl K m E G0 G e' σ' H := by
  refine ⟨R.gg, R.gh, R.eh, R.mh, R.nw, by rw [hl, hs]; exact R.len, fun i d q => ?_, fun i ds q => ?_, fun i j di dj p q1 q2 q3 q4 => ?_, fun i dss q => ?_⟩
  · obtain ⟨h1, h2⟩ := h i _ q
    rw [h2]
    exact R.im i d h1
  · obtain ⟨h1, h2⟩ := h i _ q
    rw [h2]
    exact R.ac i ds h1
  · obtain ⟨h1, h2⟩ := h i _ q1
    obtain ⟨h3, h4⟩ := h j _ q2
    rw [h2] at q3
    rw [h4] at q4
    exact R.inj i j di dj p h1 h3 q3 q4
  · obtain ⟨h1, h2⟩ := h i _ q
    rw [h2]
    exact R.ot i dss h1
end
structure GD (X : Cx) (tg : Expr) (S : List Nat) (γ : PyData → Ev → Option Ev) : Prop where
  ex : ∃ g, PG X tg g ∧ ∀ (m : Option Addr) (E : Ef) (G0 G : Hp) (e : Ev) (σ : St) (H : Hp) (v : V) (d : PyData) (e' : Ev) (Q : St → Hp → Prop),
    Rl X.K m E G0 G e σ H → Dp X.K G v d → γ d e = some e' → (∀ σ', Rl X.K m E G0 G e' σ' H → (∀ i : Nat, i ∉ S → σ'[i]? = σ[i]? ∧ e'[i]? = e[i]?) → σ'.length = σ.length → e'.length = e.length → (∀ i ∈ S, isAc e'[i]? = true → isAc e[i]? = true) → Q σ' H) → g v σ H Q
def tgOf (K : PySem.W.Frag) (S : List Nat) (γ : PyData → Ev → Option Ev) : TG := fun v σ H Q => ∃ m E G0 G e d e', Rl K m E G0 G e σ H ∧ Dp K G v d ∧ γ d e = some e' ∧
  ∀ σ', Rl K m E G0 G e' σ' H → (∀ i : Nat, i ∉ S → σ'[i]? = σ[i]? ∧ e'[i]? = e[i]?) → σ'.length = σ.length → e'.length = e.length → (∀ i ∈ S, isAc e'[i]? = true → isAc e[i]? = true) → Q σ' H
theorem GD.can {X : Cx} {tg : Expr} {S : List Nat} {γ : PyData → Ev → Option Ev} (h : GD X tg S γ) : PG X tg (tgOf X.K S γ) := by
  obtain ⟨g, p, k⟩ := h
  refine ⟨fun pins s σ H v u Q I r q => p.run pins s σ H v u Q I r ?_⟩
  obtain ⟨m, E, G0, G, e, d, e', R, D, q, P⟩ := q
  exact k m E G0 G e σ H v d e' Q R D q P
def g_name (i : Nat) : PyData → Ev → Option Ev := fun d e => some (e.set i (some (.im d)))
def setAll : List Nat → List PyData → Ev → Option Ev
  | [], [], e => some e
  | i :: is, d :: ds, e => setAll is ds (e.set i (some (.im d)))
  | _, _, _ => none
def g_tup (S : List Nat) : PyData → Ev → Option Ev := fun d e => match d with
  | .tuple ds => setAll S ds e
  | _ => none
theorem isAc_set {e : Ev} {i j : Nat} {d : PyData} (h : isAc (e.set i (some (.im d)))[j]? = true) : isAc e[j]? = true := by
  rw [set_get] at h
  by_cases z : i = j ∧ j < e.length
  · rw [if_pos z] at h
    cases h
  · rw [if_neg z] at h
    exact h
/-- names in order -/
structure GsD (X : Cx) (tgs : List Expr) (S : List Nat) : Prop where
  ex : ∃ g : TGs, PGs X tgs g ∧ ∀ (m : Option Addr) (E : Ef) (G0 G : Hp) (e : Ev) (σ : St) (H : Hp) (vs : List V) (ds : List PyData) (e' : Ev) (Q : St → Hp → Prop),
    Rl X.K m E G0 G e σ H → DpAll X.K G vs ds → setAll S ds e = some e' → (∀ σ', Rl X.K m E G0 G e' σ' H → (∀ i : Nat, i ∉ S → σ'[i]? = σ[i]? ∧ e'[i]? = e[i]?) → σ'.length = σ.length → e'.length = e.length → (∀ i ∈ S, isAc e'[i]? = true → isAc e[i]? = true) → Q σ' H) → g vs σ H Q
section
variable {X : Cx} {pos : Pos}
theorem gd_name {i : Nat} {x : Str} (hN : X.N.Nodup) (hi : X.N[i]? = some x) (hx : Loc X.env.scope x) (hf : X.fn x = true ∨ X.env.scope.names.lookup x = some .local := by first | exact .inl rfl | exact .inr rfl | assumption) : GD X (.Name x pos) [i] (g_name i) := by
  refine ⟨_, pg_name hN hi hx hf, fun m E G0 G e σ H v d e' Q R D q P => ?_⟩
  cases q
  refine P _ (R.setI i D) (fun j hj => ?_) (List.length_set ..) (List.length_set ..) fun j _ h => isAc_set h
  have z : i ≠ j := fun z => hj (by rw [z]; exact List.mem_singleton.mpr rfl)
  exact ⟨List.getElem?_set_ne z, List.getElem?_set_ne z⟩
theorem gsd_nil : GsD X [] [] := by
  refine ⟨_, pgs_nil, fun m E G0 G e σ H vs ds e' Q R D q P => ?_⟩
  cases D with
  | nil =>
    cases q
    exact ⟨rfl, P σ R (fun _ _ => ⟨rfl, rfl⟩) rfl rfl fun _ h => by cases h⟩
  | cons _ _ => cases q
theorem gsd_cons {i : Nat} {x : Str} {tgs : List Expr} {S : List Nat} (hN : X.N.Nodup) (hi : X.N[i]? = some x) (hx : Loc X.env.scope x) (hr : GsD X tgs S) (hf : X.fn x = true ∨ X.env.scope.names.lookup x = some .local := by first | exact .inl rfl | exact .inr rfl | assumption)
    (hs : (assignEach (.Name x pos :: tgs) X.env).map (·.2) = assign (.Name x pos) X.env :: (assignEach tgs X.env).map (·.2) := by rfl) : GsD X (.Name x pos :: tgs) (i :: S) := by
  obtain ⟨g, p, k⟩ := hr
  refine ⟨_, pgs_cons (pg_name hN hi hx hf) p hs, fun m E G0 G e σ H vs ds e' Q R D q P => ?_⟩
  cases D with
  | nil => cases q
  | cons h t =>
    refine ⟨_, _, rfl, ?_⟩
    refine k m E G0 G _ _ H _ _ e' Q (R.setI i h) t q fun σ' R' a1 a2 a3 a4 => ?_
    refine P σ' R' (fun j hj => ?_) (a2.trans (List.length_set ..)) (a3.trans (List.length_set ..)) fun j hj h2 => ?_
    · have z : i ≠ j := fun z => hj (by rw [z]; exact List.mem_cons_self)
      obtain ⟨b1, b2⟩ := a1 j fun y => hj (List.mem_cons_of_mem _ y)
      exact ⟨b1.trans (List.getElem?_set_ne z), b2.trans (List.getElem?_set_ne z)⟩
    · by_cases y : j ∈ S
      · exact isAc_set (a4 j y h2)
      · have b2 := (a1 j y).2
        rw [b2] at h2
        exact isAc_set h2
theorem gd_tup {tgs : List Expr} {n : Nat} {S : List Nat} (hc : X.calm = true) (h : GsD X tgs S) (hn : (assignEach tgs X.env).length = S.length := by rfl) (hst : (assignEach tgs X.env).findIdx? (·.1) = none := by rfl) : GD X (.Tuple tgs n pos) S (g_tup S) := by
  obtain ⟨g, p, k⟩ := h
  refine ⟨_, pg_tup (n := S.length) hc p hn hst, fun m E G0 G e σ H v d e' Q R D q P => ?_⟩
  unfold g_tup at q
  split at q
  · rename_i ds
    cases D with
    | tup hT hA =>
      have hl : ∀ {S : List Nat} {ds : List PyData} {e e' : Ev}, setAll S ds e = some e' → S.length = ds.length := by
        intro S
        induction S with
        | nil =>
          intro ds e e' h
          cases ds with
          | nil => rfl
          | cons _ _ => cases h
        | cons i S ih =>
          intro ds e e' h
          cases ds with
          | nil => cases h
          | cons d ds => exact congrArg (· + 1) (ih h)
      exact ⟨_, _, rfl, seqT R.gh hT, by rw [dpAll_len hA, hl q], k m E G0 G e σ H _ _ e' Q R hA q P⟩
  · cases q
end
def Yd (K : PySem.W.Frag) (G H : Hp) (x : V) (H2 : Hp) (d : PyData) : Prop :=
  (H2 = H ∧ Dp K G x d) ∨ ∃ T ws es, x = .ref T ∧ H T = none ∧ H2 = upd H T (.tup ws) ∧ d = .tuple es ∧ DpAll K G ws es
def WalkD (K : PySem.W.Frag) (G0 : Hp) (J : It) (ds : List PyData) : Prop :=
  ∀ G H, Same G0 G → Same G H → (∀ i d, ds[i]? = some d → J.go i H ∧ ∀ x H2, J.yld i H x H2 → Yd K G H x H2 d) ∧ J.stop ds.length H
abbrev Fi := Ev → Option (List PyData × Ev)
structure ID (X : Cx) (tg it : Expr) (f : Fi) : Prop where
  ex : ∃ wi, PI X tg it wi ∧ ∀ (m : Option Addr) (E : Ef) (G0 G : Hp) (e : Ev) (σ : St) (H : Hp) (ds : List PyData) (e' : Ev) (Q : It → Hp → Prop),
    Rl X.K m E G0 G e σ H → f e = some (ds, e') → (∀ J G' H', Rl X.K m E G0 G' e' σ H' → Stp σ G H e G' H' e' → WalkD X.K G' J ds → Q J H') → wi σ H Q
theorem pi_or {X : Cx} {tg it : Expr} {w1 w2 : TI} (h1 : PI X tg it w1) (h2 : PI X tg it w2) : PI X tg it (fun σ H R => w1 σ H R ∨ w2 σ H R) :=
  ⟨fun pins s σ H R I h => h.elim (h1.run pins s σ H R I) (h2.run pins s σ H R I)⟩
section
variable {K : PySem.W.Frag} {G0 : Hp} {a b : Addr} {xs ys : List V} {ds es : List PyData}
theorem walk_list (h : SqL K G0 a xs) (q : DpAll K G0 xs ds) : WalkD K G0 (Itl K a) ds := by
  intro G H s1 s2
  have hq : SqL K H a xs := (s1.trans s2).seq h
  refine ⟨fun i d e => ?_, xs, hq, by rw [dpAll_len q]; exact Nat.le_refl _⟩
  obtain ⟨v, e1, e2⟩ := dpAll_get q e
  refine ⟨⟨xs, v, hq, e1⟩, fun x H2 y => .inl ⟨y.1, ?_⟩⟩
  have z := y.2 xs hq
  rw [e1] at z
  cases z
  exact dp_same s1 e2
theorem walk_tup (h : SqT K G0 a xs) (q : DpAll K G0 xs ds) : WalkD K G0 (Itt K a) ds := by
  intro G H s1 s2
  have hq : SqT K H a xs := seqT (s1.trans s2) h
  refine ⟨fun i d e => ?_, xs, hq, by rw [dpAll_len q]; exact Nat.le_refl _⟩
  obtain ⟨v, e1, e2⟩ := dpAll_get q e
  refine ⟨⟨xs, v, hq, e1⟩, fun x H2 y => .inl ⟨y.1, ?_⟩⟩
  have z := y.2 xs hq
  rw [e1] at z
  cases z
  exact dp_same s1 e2
def rngD (lo : Int) (n : Nat) (c : Int) : List PyData := (List.range n).map fun (i : Nat) => PyData.int (lo + (i : Int) * c)
theorem rng_at {lo : Int} {n : Nat} {c : Int} {i : Nat} {d : PyData} (e : (rngD lo n c)[i]? = some d) : i < n ∧ d = .int (lo + (i : Int) * c) := by
  unfold rngD at e
  rw [List.getElem?_map] at e
  cases z : (List.range n)[i]? with
  | none => rw [z] at e; cases e
  | some j =>
    rw [z] at e
    obtain ⟨h1, h2⟩ := List.getElem?_eq_some_iff.mp z
    rw [List.length_range] at h1
    rw [List.getElem_range] at h2
    subst h2
    cases e
    exact ⟨h1, rfl⟩
theorem walk_rng {lo : Int} {n : Nat} : WalkD K G0 (Itr lo n) (rngD lo n 1) := by
  intro G H s1 s2
  refine ⟨fun i d e => ?_, by unfold rngD; rw [List.length_map, List.length_range]; exact Nat.le_refl n⟩
  obtain ⟨h1, rfl⟩ := rng_at e
  refine ⟨h1, fun x H2 y => .inl ⟨y.1, ?_⟩⟩
  rw [y.2, Int.mul_one]
  exact .int _
theorem rev_get {α : Type} {l : List α} {i : Nat} {x : α} (h : l.reverse[i]? = some x) : i < l.length ∧ l[l.length - 1 - i]? = some x := by
  have hi : i < l.length := by
    have := (List.getElem?_eq_some_iff.mp h).1
    rw [List.length_reverse] at this
    exact this
  refine ⟨hi, ?_⟩
  rw [List.getElem?_reverse hi] at h
  exact h
theorem walk_rev (h : SqL K G0 a xs) (q : DpAll K G0 xs ds) : WalkD K G0 (Itv K a xs.length) ds.reverse := by
  intro G H s1 s2
  have hq : SqL K H a xs := (s1.trans s2).seq h
  refine ⟨fun i d e => ?_, by rw [List.length_reverse, ← dpAll_len q]; exact Nat.le_refl _⟩
  obtain ⟨hi, e⟩ := rev_get e
  obtain ⟨v, e1, e2⟩ := dpAll_get q e
  rw [← dpAll_len q] at hi e1
  refine ⟨⟨hi, xs, v, hq, e1⟩, fun x H2 y => .inl ⟨y.1, ?_⟩⟩
  have z := y.2 xs hq
  rw [e1] at z
  cases z
  exact dp_same s1 e2
theorem walk_revT (h : SqT K G0 a xs) (q : DpAll K G0 xs ds) : WalkD K G0 (ItvT K a xs.length) ds.reverse := by
  intro G H s1 s2
  have hq : SqT K H a xs := seqT (s1.trans s2) h
  refine ⟨fun i d e => ?_, by rw [List.length_reverse, ← dpAll_len q]; exact Nat.le_refl _⟩
  obtain ⟨hi, e⟩ := rev_get e
  obtain ⟨v, e1, e2⟩ := dpAll_get q e
  rw [← dpAll_len q] at hi e1
  refine ⟨⟨hi, xs, v, hq, e1⟩, fun x H2 y => .inl ⟨y.1, ?_⟩⟩
  have z := y.2 xs hq
  rw [e1] at z
  cases z
  exact dp_same s1 e2
end
/-- a list or a tuple that stays -/
def i_seq (f : Fe) : Fi := fun e => match f e with
  | some (r, e1) => (match frzR r with
    | .im (.list ds) => some (ds, e1)
    | .im (.tuple ds) => some (ds, e1)
    | _ => none)
  | none => none
theorem i_seq_ok {f : Fe} {e e' : Ev} {ds : List PyData} (q : i_seq f e = some (ds, e')) : ∃ r, f e = some (r, e') ∧ (frzR r = .im (.list ds) ∨ frzR r = .im (.tuple ds)) := by
  unfold i_seq at q
  split at q
  · rename_i r e1 h
    split at q
    · rename_i es h2
      cases q
      exact ⟨r, h, .inl h2⟩
    · rename_i es h2
      cases q
      exact ⟨r, h, .inr h2⟩
    · cases q
  · cases q
section
variable {X : Cx} {tg a b c : Expr} {fa fb fc : Fe} {pos p : Pos}
theorem id_seq (ha : ED X a fa) : ID X tg a (i_seq fa) := by
  obtain ⟨t, pa, k⟩ := ha
  refine ⟨_, pi_or (pi_list pa) (pi_tup pa), fun m E G0 G e σ H ds e' Q R q P => ?_⟩
  obtain ⟨r, q1, q2⟩ := i_seq_ok q
  rcases q2 with q2 | q2
  · refine .inl (k m E G0 G e σ H r e' _ R q1 fun v G1 H1 R1 S1 V1 N1 => ?_)
    obtain ⟨G1', R1', S1', s1, V1'⟩ := R1.freeze S1 V1 N1
    rw [q2] at V1'
    have V2 : Dp X.K G1' v (.list ds) := V1'
    cases V2 with
    | lst h z => exact ⟨_, rfl, ⟨_, R1'.gh.seq h⟩, P _ _ _ R1' S1' (walk_list h z)⟩
  · refine .inr (k m E G0 G e σ H r e' _ R q1 fun v G1 H1 R1 S1 V1 N1 => ?_)
    obtain ⟨G1', R1', S1', s1, V1'⟩ := R1.freeze S1 V1 N1
    rw [q2] at V1'
    have V2 : Dp X.K G1' v (.tuple ds) := V1'
    cases V2 with
    | tup h z => exact ⟨_, rfl, ⟨_, seqT R1'.gh h⟩, P _ _ _ R1' S1' (walk_tup h z)⟩
/-- reversed(xs) -/
def i_rev (f : Fe) : Fi := fun e => match i_seq f e with
  | some (ds, e1) => some (ds.reverse, e1)
  | none => none
theorem id_rev (ha : ED X a fa) (hm : X.mg "reversed" = none) (hg : Gl X "reversed" := by rfl) (hs : starEach [a] X.env = (false, eval a X.env) :: starEach [] X.env := by rfl) : ID X tg (.Call (.Name "reversed" p) [a] [] pos) (i_rev fa) := by
  obtain ⟨t, pa, k⟩ := ha
  refine ⟨_, pi_revA hg hm pa hs, fun m E G0 G e σ H ds e' Q R q P => ?_⟩
  unfold i_rev at q
  cases h0 : i_seq fa e with
  | none => simp only [h0] at q; cases q
  | some z =>
    obtain ⟨es, e1⟩ := z
    simp only [h0, Option.some.injEq, Prod.mk.injEq] at q
    obtain ⟨rfl, rfl⟩ := q
    obtain ⟨r, q1, q2⟩ := i_seq_ok h0
    refine k m E G0 G e σ H r e1 _ R q1 fun v G1 H1 R1 S1 V1 N1 => ?_
    obtain ⟨G1', R1', S1', s1, V1'⟩ := R1.freeze S1 V1 N1
    rcases q2 with q2 | q2
    · rw [q2] at V1'
      have V2 : Dp X.K G1' v (.list es) := V1'
      cases V2 with
      | lst h z => exact ⟨_, _, rfl, .inl ⟨R1'.gh.seq h, P _ _ _ R1' S1' (walk_rev h z)⟩⟩
    · rw [q2] at V1'
      have V2 : Dp X.K G1' v (.tuple es) := V1'
      cases V2 with
      | tup h z => exact ⟨_, _, rfl, .inr ⟨seqT R1'.gh h, P _ _ _ R1' S1' (walk_revT h z)⟩⟩
/-- range -/
def rgC (i : Int) : Bool := decide (-4611686018427387904 ≤ i ∧ i < 4611686018427387904)
theorem rgC_ok {i : Int} (h : rgC i = true) : -(2 ^ 62) ≤ i ∧ i < 2 ^ 62 := by
  have h := of_decide_eq_true h
  have e : (2 : Int) ^ 62 = 4611686018427387904 := by decide
  rw [e]
  exact h
def i_rng1 (fa : Fe) : Fi := fun e => match fa e with
  | some (.im (.int j), e1) => if rgC j = true then some (rngD 0 j.toNat 1, e1) else none
  | _ => none
def i_rng2 (fa fb : Fe) : Fi := fun e => match fa e with
  | some (.im (.int i), e1) => (match fb e1 with
    | some (.im (.int j), e2) => if (rgC i && rgC j) = true then some (rngD i (j - i).toNat 1, e2) else none
    | _ => none)
  | _ => none
theorem rng1_read {t : TE} (k : ∀ (m : Option Addr) (E : Ef) (G0 G : Hp) (e : Ev) (σ : St) (H : Hp) (r : Rs) (e' : Ev) (Q : VK), Rl X.K m E G0 G e σ H → fa e = some (r, e') → Po X.K m E G0 σ G H e r e' Q → t σ H Q)
    (m : Option Addr) (E : Ef) (G0 G : Hp) (e : Ev) (σ : St) (H : Hp) (ds : List PyData) (e' : Ev) (Q : It → Hp → Prop) (R : Rl X.K m E G0 G e σ H) (q : i_rng1 fa e = some (ds, e')) (P : ∀ J G' H', Rl X.K m E G0 G' e' σ H' → Stp σ G H e G' H' e' → WalkD X.K G' J ds → Q J H') : iRng1 (tCons t tNil) σ H Q := by
  unfold i_rng1 at q
  split at q
  · rename_i j e1 h1
    by_cases z : rgC j = true
    · rw [if_pos z] at q
      simp only [Option.some.injEq, Prod.mk.injEq] at q
      obtain ⟨rfl, rfl⟩ := q
      refine k m E G0 G e σ H _ e1 _ R h1 fun v G1 H1 R1 S1 V1 _ => ?_
      cases V1
      obtain ⟨z1, z2⟩ := rgC_ok z
      exact ⟨j, rfl, z1, z2, P _ _ _ R1 S1 walk_rng⟩
    · rw [if_neg z] at q
      cases q
  · cases q
theorem id_rng1 (ha : ED X a fa) (hm : X.mg "range" = none) (hg : Gl X "range" := by rfl) (hs : starEach [a] X.env = [(false, eval a X.env)] := by rfl) : ID X tg (.Call (.Name "range" p) [a] [] pos) (i_rng1 fa) := by
  obtain ⟨t, pa, k⟩ := ha
  exact ⟨_, pi_range1 hg hm (pa_cons pa pa_nil hs) hs, rng1_read k⟩
theorem id_rng2 (ha : ED X a fa) (hb : ED X b fb) (hm : X.mg "range" = none) (hg : Gl X "range" := by rfl) (hs : starEach [a, b] X.env = [(false, eval a X.env), (false, eval b X.env)] := by rfl) (hs2 : starEach [b] X.env = [(false, eval b X.env)] := by rfl) : ID X tg (.Call (.Name "range" p) [a, b] [] pos) (i_rng2 fa fb) := by
  obtain ⟨t, pa, k⟩ := ha
  obtain ⟨t2, pb, k2⟩ := hb
  refine ⟨_, pi_range2 hg hm (pa_cons pa (pa_cons pb pa_nil hs2) (by rw [hs, hs2])) hs hs2, fun m E G0 G e σ H ds e' Q R q P => ?_⟩
  unfold i_rng2 at q
  split at q
  · rename_i i e1 h1
    split at q
    · rename_i j e2 h2
      by_cases z : (rgC i && rgC j) = true
      · rw [if_pos z] at q
        simp only [Option.some.injEq, Prod.mk.injEq] at q
        obtain ⟨rfl, rfl⟩ := q
        refine k m E G0 G e σ H _ e1 _ R h1 fun v G1 H1 R1 S1 V1 _ => ?_
        refine k2 m E G0 G1 e1 σ H1 _ e2 _ R1 h2 fun v2 G2 H2 R2 S2 V2 _ => ?_
        cases V1
        cases V2
        obtain ⟨z1, z2⟩ := Bool.and_eq_true_iff.mp z
        have z1 := rgC_ok z1
        have z2 := rgC_ok z2
        exact ⟨i, j, rfl, ⟨z1.1, z1.2, z2.1, z2.2⟩, P _ _ _ R2 (S1.trans S2) walk_rng⟩
      · rw [if_neg z] at q
        cases q
    · cases q
  · cases q
end
end DL
namespace DL
open PySem PySem.Spec PyProof.Rows L2
def wipeE (e : Ev) : List Nat → Ev
  | [] => e
  | v :: vs => (wipeE e vs).set v none
def restE (e e' : Ev) : List Nat → Ev
  | [] => e'
  | v :: vs => (restE e e' vs).set v (match e[v]? with
    | some s => s
    | none => none)
def noAc (e : Ev) (vs : List Nat) : Bool := vs.all fun i => !isAc e[i]?
def lcGo (γ : PyData → Ev → Option Ev) (tst : Ft) (fe : Fe) (vs : List Nat) : List PyData → Ev → List PyData → Option (List PyData × Ev)
  | [], e, acc => some (acc, e)
  | d :: ds, e, acc => match γ d e with
    | some e1 => (match tst e1 with
      | some (true, e2) => (match fe e2 with
        | some (r, e3) => (match imR (frzR r) with
          | some y => if okLen (acc.length + 1) = true then lcGo γ tst fe vs ds (wipeE e3 vs) (acc ++ [y]) else none
          | none => none)
        | none => none)
      | some (false, e2) => lcGo γ tst fe vs ds (wipeE e2 vs) acc
      | none => none)
    | none => none
def x_lc (fi : Fi) (γ : PyData → Ev → Option Ev) (tst : Ft) (fe : Fe) (vs : List Nat) : Fe := fun e => match fi e with
  | some (ds, e1) => if noAc e1 vs = true then (match lcGo γ tst fe vs ds (wipeE e1 vs) [] with
    | some (acc, e2) => some (.ac acc, restE e1 e2 vs)
    | none => none) else none
  | none => none
section
variable {e e' : Ev} {vs : List Nat} {σ σ' : St} {i : Nat}
theorem wipeE_len : ∀ vs : List Nat, (wipeE e vs).length = e.length
  | [] => rfl
  | v :: vs => (List.length_set ..).trans (wipeE_len vs)
theorem wipeE_out : ∀ {vs : List Nat}, i ∉ vs → (wipeE e vs)[i]? = e[i]?
  | [], _ => rfl
  | v :: vs, h => by
    have h1 : v ≠ i := fun z => h (by rw [z]; exact List.mem_cons_self)
    unfold wipeE
    rw [List.getElem?_set_ne h1]
    exact wipeE_out fun z => h (List.mem_cons_of_mem _ z)
theorem wipeE_in : ∀ {vs : List Nat} {s : Sl}, (wipeE e vs)[i]? = some (some s) → i ∉ vs
  | [], _, _ => by simp
  | v :: vs, s, h => by
    unfold wipeE at h
    rw [set_get] at h
    by_cases z : v = i ∧ i < (wipeE e vs).length
    · rw [if_pos z] at h
      cases h
    · rw [if_neg z] at h
      have hl := (List.getElem?_eq_some_iff.mp h).1
      intro q
      rcases List.mem_cons.mp q with q | q
      · exact z ⟨q.symm, hl⟩
      · exact wipeE_in h q
theorem wipe_in : ∀ {vs : List Nat}, i ∈ vs → (wipe σ vs)[i]? = if i < σ.length then some none else none
  | [], h => by cases h
  | v :: vs, h => by
    unfold wipe
    rw [set_get, wipe_length]
    by_cases z : v = i ∧ i < σ.length
    · rw [if_pos z, if_pos z.2]
    · rw [if_neg z]
      by_cases y : i ∈ vs
      · exact wipe_in y
      · have e1 : i = v := by
          rcases List.mem_cons.mp h with q | q
          · exact q
          · exact absurd q y
        have hl : ¬ i < σ.length := fun q => z ⟨e1.symm, q⟩
        rw [if_neg hl, wipe_out y]
        exact List.getElem?_eq_none (by omega)
theorem wipe_same (h : ∀ i : Nat, i ∉ vs → σ'[i]? = σ[i]?) (hl : σ'.length = σ.length) : wipe σ' vs = wipe σ vs := by
  apply List.ext_getElem?
  intro i
  by_cases z : i ∈ vs
  · rw [wipe_in z, wipe_in z, hl]
  · rw [wipe_out z, wipe_out z]
    exact h i z
theorem wipe_wipe : wipe (wipe σ vs) vs = wipe σ vs := wipe_same (fun i z => wipe_out z) (wipe_length _ _)
theorem restE_len : ∀ vs : List Nat, (restE e e' vs).length = e'.length
  | [] => rfl
  | v :: vs => (List.length_set ..).trans (restE_len vs)
theorem restE_out : ∀ {vs : List Nat}, i ∉ vs → (restE e e' vs)[i]? = e'[i]?
  | [], _ => rfl
  | v :: vs, h => by
    have h1 : v ≠ i := fun z => h (by rw [z]; exact List.mem_cons_self)
    unfold restE
    rw [List.getElem?_set_ne h1]
    exact restE_out fun z => h (List.mem_cons_of_mem _ z)
theorem restE_in (hl : e'.length = e.length) : ∀ {vs : List Nat}, i ∈ vs → (restE e e' vs)[i]? = e[i]?
  | [], h => by cases h
  | v :: vs, h => by
    unfold restE
    rw [set_get, restE_len]
    by_cases z : v = i ∧ i < e'.length
    · rw [if_pos z]
      have h2 : i < e.length := by omega
      rw [z.1, List.getElem?_eq_getElem h2]
    · rw [if_neg z]
      by_cases y : i ∈ vs
      · exact restE_in hl y
      · have e1 : i = v := by
          rcases List.mem_cons.mp h with q | q
          · exact q
          · exact absurd q y
        have h2 : ¬ i < e'.length := fun q => z ⟨e1.symm, q⟩
        rw [restE_out y, List.getElem?_eq_none (by omega), List.getElem?_eq_none (by omega)]
theorem noAc_at (h : noAc e vs = true) (hi : i ∈ vs) : isAc e[i]? = false := by
  have q := List.all_eq_true.mp h i hi
  simpa using q
end
section
variable {K : PySem.W.Frag} {m : Option Addr} {E : Ef} {G0 G H : Hp} {e : Ev} {σ : St} {vs : List Nat} {D : Addr} {ws : List V}
theorem Rl.wipe (R : Rl K m E G0 G e σ H) (vs : List Nat) : Rl K m E G0 G (wipeE e vs) (L2.wipe σ vs) H :=
  R.forget (wipeE_len _) (wipe_length _ _) fun i s h => by
    have z := wipeE_in h
    rw [wipeE_out z] at h
    exact ⟨h, wipe_out z⟩
theorem own_wipe (h : noAc e vs = true) {a : Addr} : Own (L2.wipe σ vs) (wipeE e vs) a ↔ Own σ e a := by
  constructor
  · rintro ⟨i, ds, h1, h2⟩
    have z := wipeE_in h1
    rw [wipeE_out z] at h1
    rw [wipe_out z] at h2
    exact ⟨i, ds, h1, h2⟩
  · rintro ⟨i, ds, h1, h2⟩
    have z : i ∉ vs := fun z => by
      have q := noAc_at h z
      rw [h1] at q
      cases q
    exact ⟨i, ds, by rw [wipeE_out z]; exact h1, by rw [wipe_out z]; exact h2⟩
/-- a list that is nobody's is written -/
theorem Rl.updD (R : Rl K m E G0 G e σ H) (hG : G D = none) (hE : E D = none) (hO : ¬ Own σ e D) : Rl K m E G0 G e σ (upd H D (.lst ws)) := by
  refine ⟨R.gg, fun b o q => ?_, fun b o q1 q2 => ?_, fun b q => ⟨(R.mh b q).1, ?_⟩, R.nw, R.len, R.im, fun i ds q => ?_, R.inj, R.ot⟩
  · rw [upd_ne (ne_of_none q hG)]
    exact R.gh b o q
  · rw [upd_ne (ne_of_none q1 hE)]
    exact R.eh b o q1 q2
  · have z : b ≠ D := fun z => (R.mh b q).1 (by rw [z]; exact hE)
    rw [upd_ne z]
    exact (R.mh b q).2
  · obtain ⟨p, ws', h1, h2, h3, h4, h5⟩ := R.ac i ds q
    have z : p ≠ D := fun z => hO ⟨i, ds, q, by rw [← z]; exact h1⟩
    exact ⟨p, ws', h1, h2, by rw [upd_ne z]; exact h3, h4, h5⟩
end
section
variable {X : Cx}
/-- the loop -/
theorem lc_ok {m : Option Addr} {E : Ef} {G0 G1 H1 : Hp} {e1 : Ev} {σ : St} {ds : List PyData} {J : It} {S vs : List Nat} {γ : PyData → Ev → Option Ev} {tst : Ft} {fe : Fe} {acc : List PyData} {eF : Ev} {K : PySem.W.Frag} {Q : VK} {D : Addr}
    (R1 : Rl K m E G0 G1 e1 σ H1) (WD : WalkD K G1 J ds) (hS : ∀ i ∈ S, i ∈ vs) (hn : noAc e1 vs = true) (q : lcGo γ tst fe vs ds (wipeE e1 vs) [] = some (acc, eF)) (hD : H1 D = none)
    (P : ∀ G H, Rl K m E G0 G (restE e1 eF vs) σ H → Stp σ G1 H1 e1 G H (restE e1 eF vs) → Vr K E G H σ (restE e1 eF vs) (.ref D) (.ac acc) → Q (.ref D) H) :
    ∃ W : Nat → Nat → Hp → Prop, (∃ mm, W 0 mm (upd H1 D (.lst []))) ∧ ∀ i mm H, W i mm H →
      (J.stop i H ∧ Q (.ref D) H) ∨ (J.go i H ∧ ∃ Nx : Hp → Prop, (∀ H', Nx H' → ∃ m', m' < mm ∧ W (i + 1) m' H') ∧ ∀ x H', J.yld i H x H' → tgOf K S γ x (L2.wipe σ vs) H' fun σ2 H2 => L2.wipe σ2 vs = L2.wipe σ vs ∧ ttOf K tst σ2 H2 fun b H3 =>
        if b = true then teOf K fe σ2 H3 fun y H4 => ∃ acc, H4 D = some (.lst acc) ∧ acc.length < sizeLine ∧ Nx (upd H4 D (.lst (acc ++ [y]))) else Nx H3) := by
  obtain ⟨gD, eD, oD, mD⟩ := R1.fresh hD
  let W : Nat → Nat → Hp → Prop := fun i mm H => ∃ G e ac ws, mm = ds.length - i ∧ i ≤ ds.length ∧ Rl K m E G0 G e (L2.wipe σ vs) H ∧ Stp (L2.wipe σ vs) G1 H1 (wipeE e1 vs) G H e ∧ G D = none ∧ H D = some (.lst ws) ∧ DpAll K G ws ac ∧ lcGo γ tst fe vs (ds.drop i) e ac = some (acc, eF)
  refine ⟨W, ⟨ds.length, G1, wipeE e1 vs, [], [], by simp, Nat.zero_le _, ?_, ?_, gD, upd_same, .nil, by simpa using q⟩, ?_⟩
  · exact ((R1.wipe vs).newL hD .nil).1
  · exact ((R1.wipe vs).newL hD (ds := []) .nil).2.1
  rintro i mm H ⟨G, e, ac, ws, rfl, hi, R, S1, hG, hH, dv, lc⟩
  -- what is nobody's
  have noD : ¬ Own (L2.wipe σ vs) e D := fun z => oD ((own_wipe hn).mp ((own_kd S1.kd).mp z))
  obtain ⟨wk, stop⟩ := WD G H S1.gg R.gh
  by_cases hlt : i < ds.length
  · have hd : ds.drop i = ds[i] :: ds.drop (i + 1) := by rw [List.drop_eq_getElem_cons hlt]
    have hget : ds[i]? = some ds[i] := List.getElem?_eq_getElem hlt
    rw [hd] at lc
    generalize ds[i] = d at lc hget hd
    obtain ⟨go, yl⟩ := wk i d hget
    refine .inr ⟨go, W (i + 1) (ds.length - (i + 1)), fun H' h => ⟨_, by omega, h⟩, fun x H' y => ?_⟩
    -- what is yielded
    have hY : ∃ G', Rl K m E G0 G' e (L2.wipe σ vs) H' ∧ Stp (L2.wipe σ vs) G H e G' H' e ∧ Dp K G' x d := by
      rcases yl x H' y with ⟨rfl, h⟩ | ⟨T, us, es, rfl, nT, rfl, rfl, h⟩
      · exact ⟨G, R, Stp.refl, h⟩
      · obtain ⟨R', S', D'⟩ := R.newT nT h
        exact ⟨_, R', S', D'⟩
    obtain ⟨G', R', S', dx⟩ := hY
    have gD' : G' D = none := S'.nw D hG (by rw [hH]; simp)
    have hD' : H' D = some (.lst ws) := S'.hh D _ hH noD
    -- the turn's own steps
    simp only [lcGo] at lc
    cases h1 : γ d e with
    | none => simp only [h1] at lc; cases lc
    | some e2 =>
      simp only [h1] at lc
      refine ⟨m, E, G0, G', e, d, e2, R', dx, h1, fun σ' R2 out sl el ac1 => ?_⟩
      have wsame : L2.wipe σ' vs = L2.wipe σ vs := by
        have z := wipe_same (vs := vs) (σ' := σ') (σ := L2.wipe σ vs) (fun i hi => (out i fun z => hi (hS i z)).1) sl
        rw [wipe_wipe] at z
        exact z
      refine ⟨wsame, ?_⟩
      have vsE : ∀ i ∈ vs, isAc e[i]? = false := fun i hi => by
        rw [S1.kd i]
        cases z : (wipeE e1 vs)[i]? with
        | none => rfl
        | some s =>
          cases s with
          | none => rfl
          | some s => exact absurd hi (wipeE_in z)
      have own2 : ∀ a, Own σ' e2 a → Own (L2.wipe σ vs) e a := fun a ⟨j, dj, z1, z2⟩ => by
        by_cases hj : j ∈ S
        · have q1 := ac1 j hj (by rw [z1]; rfl)
          rw [vsE j (hS j hj)] at q1
          cases q1
        · obtain ⟨o1, o2⟩ := out j hj
          exact ⟨j, dj, by rw [← o2]; exact z1, by rw [← o1]; exact z2⟩
      -- closing a turn: from the state behind the element
      have fin : ∀ {G5 H4 : Hp} {e3 : Ev} {ws2 : List V} {ac2 : List PyData}, Rl K m E G0 G5 e3 σ' H4 → Stp σ' G' H' e2 G5 H4 e3 → DpAll K G5 ws2 ac2 → lcGo γ tst fe vs (ds.drop (i + 1)) (wipeE e3 vs) ac2 = some (acc, eF) →
          W (i + 1) (ds.length - (i + 1)) (upd H4 D (.lst ws2)) := by
        intro G5 H4 e3 ws2 ac2 R5 S5 d5 lc5
        have g5 : G5 D = none := S5.nw D gD' (by rw [hD']; simp)
        have o5 : ¬ Own σ' e3 D := fun z => noD (own2 D ((own_kd S5.kd).mp z))
        have R6 := (R5.updD (ws := ws2) g5 eD o5).wipe vs
        rw [wsame] at R6
        refine ⟨G5, wipeE e3 vs, ac2, ws2, rfl, hlt, R6, ⟨S1.gg.trans (S'.gg.trans S5.gg), fun a h1 h2 => ?_, fun a o h1 h2 => ?_, fun j => ?_, fun a h1 => ?_⟩, g5, upd_same, d5, lc5⟩
        · exact S5.nw a (S'.nw a (S1.nw a h1 h2) (S1.th a h2)) (S'.th a (S1.th a h2))
        · have z : a ≠ D := ne_of_none h1 hD
          rw [upd_ne z]
          have n1 : ¬ Own (L2.wipe σ vs) e a := fun y => h2 ((own_kd S1.kd).mp y)
          exact S5.hh a o (S'.hh a o (S1.hh a o h1 h2) n1) fun y => n1 (own2 a y)
        · by_cases hj : j ∈ vs
          · have b1 : ∀ {e : Ev}, isAc (wipeE e vs)[j]? = false := fun {e} => by
              cases z : (wipeE e vs)[j]? with
              | none => rfl
              | some s =>
                cases s with
                | none => rfl
                | some s => exact absurd hj (wipeE_in z)
            rw [b1, b1]
          · rw [wipeE_out hj, S5.kd j, (out j fun z => hj (hS j z)).2]
            exact S1.kd j
        · by_cases z : a = D
          · rw [z, upd_same]
            simp
          · rw [upd_ne z]
            exact S5.th a (S'.th a (S1.th a h1))
      cases h2 : tst e2 with
      | none => simp only [h2] at lc; cases lc
      | some z =>
        obtain ⟨b, e3⟩ := z
        cases b with
        | false =>
          simp only [h2] at lc
          refine ⟨m, E, G0, G', e2, false, e3, R2, h2, fun G3 H3 R3 S3 => ?_⟩
          show (if false = true then _ else _)
          rw [if_neg Bool.false_ne_true]
          have w3 : H3 D = some (.lst ws) := S3.hh D _ hD' fun z => noD (own2 D z)
          have eu : upd H3 D (.lst ws) = H3 := by
            funext b
            by_cases z : b = D
            · rw [z, upd_same, w3]
            · rw [upd_ne z]
          have z := fin R3 S3 (dpAll_same (S'.gg.trans S3.gg) dv) lc
          rw [eu] at z
          exact z
        | true =>
          simp only [h2] at lc
          refine ⟨m, E, G0, G', e2, true, e3, R2, h2, fun G3 H3 R3 S3 => ?_⟩
          show (if true = true then _ else _)
          rw [if_pos rfl]
          cases h3 : fe e3 with
          | none => simp only [h3] at lc; cases lc
          | some z =>
            obtain ⟨r, e4⟩ := z
            simp only [h3] at lc
            refine ⟨m, E, G0, G3, e3, r, e4, R3, h3, fun v G4 H4 R4 S4 V4 N4 => ?_⟩
            obtain ⟨G5, R5, S5, s5, V5⟩ := R4.freeze (S3.trans S4) V4 (nw_back S3 v N4)
            cases h4 : imR (frzR r) with
            | none => simp only [h4] at lc; cases lc
            | some yd =>
              simp only [h4] at lc
              have er : frzR r = .im yd := by
                cases r with
                | im d =>
                  cases h4
                  rfl
                | ac ds =>
                  cases h4
                  rfl
                | br i => cases h4
              rw [er] at V5
              by_cases h5 : okLen (ac.length + 1) = true
              · rw [if_pos h5] at lc
                have w4 : H4 D = some (.lst ws) := S5.hh D _ hD' fun z => noD (own2 D z)
                have hl := okLen_ok h5
                refine ⟨ws, w4, by rw [dpAll_len dv]; omega, ?_⟩
                exact fin R5 S5 (dpAll_app (dpAll_same (S'.gg.trans S5.gg) dv) (.cons V5 .nil)) lc
              · rw [if_neg h5] at lc
                cases lc
  · have hi2 : i = ds.length := by omega
    subst hi2
    rw [List.drop_length] at lc
    simp only [lcGo, Option.some.injEq, Prod.mk.injEq] at lc
    obtain ⟨rfl, rfl⟩ := lc
    have hl : e.length = e1.length := by
      have z1 := R.len
      have z2 := R1.len
      rw [wipe_length] at z1
      omega
    have vsE : ∀ i ∈ vs, isAc e[i]? = false := fun i hi => by
      rw [S1.kd i]
      cases z : (wipeE e1 vs)[i]? with
      | none => rfl
      | some s =>
        cases s with
        | none => rfl
        | some s => exact absurd hi (wipeE_in z)
    have kd : ∀ j : Nat, isAc (restE e1 e vs)[j]? = isAc e1[j]? := fun j => by
      by_cases hj : j ∈ vs
      · rw [restE_in hl hj]
      · rw [restE_out hj, S1.kd j, wipeE_out hj]
    have get : ∀ {j : Nat} {s : Sl}, (restE e1 e vs)[j]? = some (some s) → (j ∈ vs ∧ e1[j]? = some (some s)) ∨ (j ∉ vs ∧ e[j]? = some (some s)) := fun {j s} z => by
      by_cases hj : j ∈ vs
      · rw [restE_in hl hj] at z
        exact .inl ⟨hj, z⟩
      · rw [restE_out hj] at z
        exact .inr ⟨hj, z⟩
    have ac1 : ∀ {j : Nat} {dj : List PyData}, (restE e1 e vs)[j]? = some (some (.ac dj)) → j ∉ vs ∧ e[j]? = some (some (.ac dj)) := fun {j dj} z => by
      rcases get z with ⟨h1, h2⟩ | z
      · have q1 := noAc_at hn h1
        rw [h2] at q1
        cases q1
      · exact z
    have RF : Rl K m E G0 G (restE e1 e vs) σ H := by
      refine ⟨R.gg, R.gh, R.eh, R.mh, R.nw, by rw [restE_len, hl]; exact R1.len, fun j d z => ?_, fun j dj z => ?_, fun j k dj dk p z1 z2 z3 z4 => ?_, fun j dss z => ?_⟩
      · rcases get z with ⟨h1, h2⟩ | ⟨h1, h2⟩
        · obtain ⟨v, a1, a2⟩ := R1.im j d h2
          exact ⟨v, a1, dp_same S1.gg a2⟩
        · obtain ⟨v, a1, a2⟩ := R.im j d h2
          rw [wipe_out h1] at a1
          exact ⟨v, a1, a2⟩
      · obtain ⟨h1, h2⟩ := ac1 z
        obtain ⟨p, w, a1, a2⟩ := R.ac j dj h2
        rw [wipe_out h1] at a1
        exact ⟨p, w, a1, a2⟩
      · obtain ⟨h1, h2⟩ := ac1 z1
        obtain ⟨h3, h4⟩ := ac1 z2
        exact R.inj j k dj dk p h2 h4 (by rw [wipe_out h1]; exact z3) (by rw [wipe_out h3]; exact z4)
      · rcases get z with ⟨h1, h2⟩ | ⟨h1, h2⟩
        · exact (R1.ot j dss h2).mono S1.gg
        · have a1 := R.ot j dss h2
          rw [wipe_out h1] at a1
          exact a1
    refine .inl ⟨stop, P G H RF ⟨S1.gg, S1.nw, fun a o h1 h2 => S1.hh a o h1 fun z => h2 ((own_wipe hn).mp z), kd, S1.th⟩ ⟨D, ws, rfl, eD, hG, hH, dv, fun z => oD ((own_kd kd).mp z)⟩⟩
structure PTD (X : Cx) (ifs : List Expr) (f : Ft) : Prop where
  ex : PTs X ifs (ttOf X.K f)
def t_yes : Ft := fun e => some (true, e)
theorem ptd_nil : PTD X [] t_yes := ⟨⟨fun pins s σ H Q I h => by
  obtain ⟨m, E, G0, G, e, b, e', R, q, P⟩ := h
  cases q
  exact pts_nil.run pins s σ H Q I (P G H R Stp.refl)⟩⟩
theorem ptd_one {c : Expr} {f : Ft} (h : TD X c f) : PTD X [c] f := ⟨pts_one h.can⟩
variable {elt tg it : Expr} {ifs : List Expr} {scope : Scope} {own : List (Str × Nat)} {pos spos : Pos} {fi : Fi} {S : List Nat} {γ : PyData → Ev → Option Ev} {tst : Ft} {fe : Fe}
theorem x_lc_ok {wi : TI} (hS : ∀ i ∈ S, i ∈ own.map (·.2)) (k : ∀ (m : Option Addr) (E : Ef) (G0 G : Hp) (e : Ev) (σ : St) (H : Hp) (ds : List PyData) (e' : Ev) (Q : It → Hp → Prop),
      Rl X.K m E G0 G e σ H → fi e = some (ds, e') → (∀ J G' H', Rl X.K m E G0 G' e' σ H' → Stp σ G H e G' H' e' → WalkD X.K G' J ds → Q J H') → wi σ H Q)
    (m : Option Addr) (E : Ef) (G0 G : Hp) (e : Ev) (σ : St) (H : Hp) (r : Rs) (e' : Ev) (Q : VK) (R : Rl X.K m E G0 G e σ H) (q : x_lc fi γ tst fe (own.map (·.2)) e = some (r, e')) (P : Po X.K m E G0 σ G H e r e' Q) :
    tLc wi (tgOf X.K S γ) (ttOf X.K tst) (teOf X.K fe) (own.map (·.2)) σ H Q := by
  unfold x_lc at q
  cases h1 : fi e with
  | none => simp only [h1] at q; cases q
  | some z =>
    obtain ⟨ds, e1⟩ := z
    simp only [h1] at q
    by_cases h2 : noAc e1 (own.map (·.2)) = true
    · rw [if_pos h2] at q
      cases h3 : lcGo γ tst fe (own.map (·.2)) ds (wipeE e1 (own.map (·.2))) [] with
      | none => simp only [h3] at q; cases q
      | some z =>
        obtain ⟨acc, e2⟩ := z
        simp only [h3, Option.some.injEq, Prod.mk.injEq] at q
        obtain ⟨rfl, rfl⟩ := q
        refine k m E G0 G e σ H ds e1 _ R h1 fun J G1 H1 R1 S1 W1 D hD => ?_
        exact lc_ok R1 W1 hS h2 h3 hD fun G2 H2 R2 S2 V2 => P _ G2 H2 R2 (S1.trans S2) V2 (nw_back S1 _ fun p z => by
          cases z
          exact hD)
    · rw [if_neg h2] at q
      cases q
/-- [elt for tg in it if ..] -/
theorem ed_lc (hc : X.calm = true) (hN : X.N.Nodup) (hi : ID X tg it fi) (ok : blkC X.N X.env.scope scope own = true) (hS : ∀ i ∈ S, i ∈ own.map (·.2))
    (hg : ∀ (s : Shared) (H : Hp) (C : Addr) (cl : List (Str × Addr)) (fp : List Addr), GD (X.blk s H scope (compEnvC scope cl C X.env) fp) tg S γ) (ht : ∀ (s : Shared) (H : Hp) (C : Addr) (cl : List (Str × Addr)) (fp : List Addr), PTD (X.blk s H scope (compEnvC scope cl C X.env) fp) ifs tst)
    (he : ∀ (s : Shared) (H : Hp) (C : Addr) (cl : List (Str × Addr)) (fp : List Addr), ED (X.blk s H scope (compEnvC scope cl C X.env) fp) elt fe) (hs : ∀ x, foldedSetIterable it X.env x = pure x := by intro _; rfl) :
    ED X (.ListComp elt [⟨tg, it, ifs, 0⟩] scope pos) (x_lc fi γ tst fe (own.map (·.2))) := by
  obtain ⟨wi, pi, k⟩ := hi
  exact ⟨_, pe_lc hc hN pi (blkOk_by ok) (fun s H C cl fp => (hg s H C cl fp).can) (fun s H C cl fp => (ht s H C cl fp).ex) (fun s H C cl fp => (he s H C cl fp).can) hs, x_lc_ok hS k⟩
end
end DL
namespace DL
open PySem PySem.Spec PyProof.Rows L2
/-- the first slot stays the caller's list, if there is one -/
structure Rz (K : PySem.W.Frag) (m : Option Addr) (E : Ef) (G0 G : Hp) (e : Ev) (σ : St) (H : Hp) : Prop where
  r : Rl K m E G0 G e σ H
  z : ∀ p, m = some p → isAc e[0]? = true ∧ σ[0]? = some (some (.ref p))
def PoS (K : PySem.W.Frag) (m : Option Addr) (E : Ef) (G0 G : Hp) (D : Ends) : Fl → Prop
  | .nx e => ∀ G' σ H, Same G G' → Rz K m E G0 G' e σ H → D.nx σ H
  | .bk e => ∀ G' σ H, Same G G' → Rz K m E G0 G' e σ H → D.bk σ H
  | .ct e => ∀ G' σ H, Same G G' → Rz K m E G0 G' e σ H → D.ct σ H
  | .rt r e => ∀ v G' σ H, Same G G' → Rz K m E G0 G' e σ H → Vr K E G' H σ e v r → D.rt v H
structure SD (X : Cx) (st : Stmt) (f : Fs) : Prop where
  ex : ∃ t : TS, PS X st t ∧ ∀ (m : Option Addr) (E : Ef) (G0 G : Hp) (e : Ev) (σ : St) (H : Hp) (fl : Fl) (D : Ends),
    Rz X.K m E G0 G e σ H → f e = some fl → PoS X.K m E G0 G D fl → t D σ H
structure SsD (X : Cx) (sts : List Stmt) (f : Fs) : Prop where
  ex : ∃ t : TS, PSs X sts t ∧ ∀ (m : Option Addr) (E : Ef) (G0 G : Hp) (e : Ev) (σ : St) (H : Hp) (fl : Fl) (D : Ends),
    Rz X.K m E G0 G e σ H → f e = some fl → PoS X.K m E G0 G D fl → t D σ H
section
variable {K : PySem.W.Frag} {m : Option Addr} {E : Ef} {G0 G G' H H' : Hp} {e e' : Ev} {σ σ' : St} {v : V} {d : PyData} {D D' : Ends} {fl : Fl} {i : Nat}
theorem PoS.aft (P : PoS K m E G0 G D fl) (s : Same G G') : PoS K m E G0 G' D fl := by
  cases fl with
  | nx e => exact fun G2 σ H s2 R => P G2 σ H (s.trans s2) R
  | bk e => exact fun G2 σ H s2 R => P G2 σ H (s.trans s2) R
  | ct e => exact fun G2 σ H s2 R => P G2 σ H (s.trans s2) R
  | rt r e => exact fun v G2 σ H s2 R V => P v G2 σ H (s.trans s2) R V
theorem Rz.exp (R : Rz K m E G0 G e σ H) (R' : Rl K m E G0 G' e' σ H') (S : Stp σ G H e G' H' e') : Rz K m E G0 G' e' σ H' :=
  ⟨R', fun p z => ⟨by rw [S.kd 0]; exact (R.z p z).1, (R.z p z).2⟩⟩
def okS (S : List Nat) (e : Ev) : Bool := !(S.contains 0 && isAc e[0]?)
theorem okS_no (h : okS S e = true) (q : isAc e[0]? = true) : 0 ∉ S := by
  intro z
  unfold okS at h
  rw [q, List.contains_iff_mem.mpr z] at h
  cases h
theorem Rz.setI (R : Rz K m E G0 G e σ H) (h : Dp K G v d) (ok : okS [i] e = true) : Rz K m E G0 G (e.set i (some (.im d))) (σ.set i (some v)) H :=
  ⟨R.r.setI i h, fun p z => by
    obtain ⟨z1, z2⟩ := R.z p z
    have n := okS_no ok z1
    have n : i ≠ 0 := fun q => n (by rw [q]; exact List.mem_singleton.mpr rfl)
    rw [List.getElem?_set_ne n, List.getElem?_set_ne n]
    exact ⟨z1, z2⟩⟩
theorem Rz.setA {ds : List PyData} (R : Rz K m E G0 G e σ H) (h : Vr K E G H σ e v (.ac ds)) (ok : okS [i] e = true) : Rz K m E G0 G (e.set i (some (.ac ds))) (σ.set i (some v)) H :=
  ⟨R.r.setA i h, fun p z => by
    obtain ⟨z1, z2⟩ := R.z p z
    have n := okS_no ok z1
    have n : i ≠ 0 := fun q => n (by rw [q]; exact List.mem_singleton.mpr rfl)
    rw [List.getElem?_set_ne n, List.getElem?_set_ne n]
    exact ⟨z1, z2⟩⟩
end
def s_seq (f g : Fs) : Fs := fun e => match f e with
  | some (.nx e1) => g e1
  | some x => some x
  | none => none
def s_nx : Fs := fun e => some (.nx e)
def s_no : Fs := fun _ => none
section
variable {X : Cx} {st : Stmt} {rest : List Stmt} {f g : Fs} {pos : Pos} {a : Expr} {fe : Fe}
theorem ssd_nil : SsD X [] s_nx := ⟨_, pss_nil, fun m E G0 G e σ H fl D R q P => by
  cases q
  exact P G σ H (Same.refl _) R⟩
theorem ssd_cons (h : SD X st f) (h2 : SsD X rest g) : SsD X (st :: rest) (s_seq f g) := by
  obtain ⟨t, p, k⟩ := h
  obtain ⟨t2, p2, k2⟩ := h2
  refine ⟨_, pss_cons p p2, fun m E G0 G e σ H fl D R q P => ?_⟩
  unfold s_seq at q
  split at q
  · rename_i e1 h1
    refine k m E G0 G e σ H _ _ R h1 ?_
    exact fun G' σ' H' s R' => k2 m E G0 G' e1 σ' H' fl D R' q (P.aft s)
  · rename_i x h2 h1
    cases q
    refine k m E G0 G e σ H _ _ R h1 ?_
    cases fl with
    | nx e1 => exact (h2 e1 rfl).elim
    | bk e => exact P
    | ct e => exact P
    | rt r e => exact P
  · cases q
theorem ssd_one (h : SD X st f) : SsD X [st] f := by
  obtain ⟨t, p, k⟩ := h
  exact ⟨_, pss_one p, k⟩
theorem sd_never : SD X st s_no := ⟨_, ps_never, fun m E G0 G e σ H fl D R q P => by cases q⟩
def s_drop (f : Fe) : Fs := fun e => match f e with
  | some (_, e1) => some (.nx e1)
  | none => none
theorem sd_expr (h : ED X a fe) (hs : swapsWith a none pos.line X.env = pure false := by rfl) : SD X (.Expr a pos) (s_drop fe) := by
  obtain ⟨t, p, k⟩ := h
  refine ⟨_, ps_expr p hs, fun m E G0 G e σ H fl D R q P => ?_⟩
  unfold s_drop at q
  split at q
  · rename_i r e1 h1
    cases q
    exact k m E G0 G e σ H _ _ _ R.r h1 fun v G' H' R' S' V N => P G' σ H' S'.gg (R.exp R' S')
  · cases q
def s_ret (f : Fe) : Fs := fun e => match f e with
  | some (r, e1) => some (.rt r e1)
  | none => none
theorem sd_ret (h : ED X a fe) : SD X (.Return (some a) pos) (s_ret fe) := by
  obtain ⟨t, p, k⟩ := h
  refine ⟨_, ps_ret p, fun m E G0 G e σ H fl D R q P => ?_⟩
  unfold s_ret at q
  split at q
  · rename_i r e1 h1
    cases q
    exact k m E G0 G e σ H _ _ _ R.r h1 fun v G' H' R' S' V N => P v G' σ H' S'.gg (R.exp R' S') V
  · cases q
def s_if (c : Ft) (f g : Fs) : Fs := fun e => match c e with
  | some (true, e1) => f e1
  | some (false, e1) => g e1
  | none => none
theorem sd_if {tst : Expr} {A B : List Stmt} {c : Ft} (hc : TD X tst c) (ha : SsD X A f) (hb : SsD X B g) : SD X (.If tst A B pos) (s_if c f g) := by
  obtain ⟨t, p, k⟩ := hc
  obtain ⟨t1, p1, k1⟩ := ha
  obtain ⟨t2, p2, k2⟩ := hb
  refine ⟨_, ps_if p p1 p2, fun m E G0 G e σ H fl D R q P => ?_⟩
  unfold s_if at q
  split at q
  · rename_i e1 h1
    refine k m E G0 G e σ H true e1 _ R.r h1 fun G' H' R' S' => ?_
    rw [if_pos rfl]
    exact k1 m E G0 G' e1 σ H' fl D (R.exp R' S') q (P.aft S'.gg)
  · rename_i e1 h1
    refine k m E G0 G e σ H false e1 _ R.r h1 fun G' H' R' S' => ?_
    rw [if_neg Bool.false_ne_true]
    exact k2 m E G0 G' e1 σ H' fl D (R.exp R' S') q (P.aft S'.gg)
  · cases q
def putA (i : Nat) (e : Ev) : Rs → Option Ev
  | .im d => some (e.set i (some (.im d)))
  | .ac ds => some (e.set i (some (.ac ds)))
  | .br _ => none
def s_set (i : Nat) (f : Fe) : Fs := fun e => match f e with
  | some (r, e1) => if okS [i] e1 = true then (match putA i e1 r with
    | some e2 => some (.nx e2)
    | none => none) else none
  | none => none
def s_setF (i : Nat) (f : Fe) : Fs := s_set i fun e => match f e with
  | some (r, e1) => some (frzR r, e1)
  | none => none
theorem set_ok {i : Nat} {te : TE} (k : ∀ (m : Option Addr) (E : Ef) (G0 G : Hp) (e : Ev) (σ : St) (H : Hp) (r : Rs) (e' : Ev) (Q : VK), Rl X.K m E G0 G e σ H → fe e = some (r, e') → Po X.K m E G0 σ G H e r e' Q → te σ H Q)
    (m : Option Addr) (E : Ef) (G0 G : Hp) (e : Ev) (σ : St) (H : Hp) (fl : Fl) (D : Ends) (R : Rz X.K m E G0 G e σ H) (q : s_set i fe e = some fl) (P : PoS X.K m E G0 G D fl) : tAsg te (gName i) D σ H := by
  unfold s_set at q
  split at q
  · rename_i r e1 h1
    by_cases ok : okS [i] e1 = true
    · rw [if_pos ok] at q
      refine k m E G0 G e σ H _ _ _ R.r h1 fun v G' H' R' S' V N => ?_
      have Rx := R.exp R' S'
      cases r with
      | im d =>
        cases q
        exact P G' _ H' S'.gg (Rx.setI V ok)
      | ac ds =>
        cases q
        exact P G' _ H' S'.gg (Rx.setA V ok)
      | br j => cases q
    · rw [if_neg ok] at q
      cases q
  · cases q
theorem frz_k {te : TE} (k : ∀ (m : Option Addr) (E : Ef) (G0 G : Hp) (e : Ev) (σ : St) (H : Hp) (r : Rs) (e' : Ev) (Q : VK), Rl X.K m E G0 G e σ H → fe e = some (r, e') → Po X.K m E G0 σ G H e r e' Q → te σ H Q)
    (m : Option Addr) (E : Ef) (G0 G : Hp) (e : Ev) (σ : St) (H : Hp) (r : Rs) (e' : Ev) (Q : VK) (R : Rl X.K m E G0 G e σ H) (q : (match fe e with
      | some (r, e1) => some (frzR r, e1)
      | none => none) = some (r, e')) (P : Po X.K m E G0 σ G H e r e' Q) : te σ H Q := by
  split at q
  · rename_i r1 e1 h1
    cases q
    refine k m E G0 G e σ H _ _ _ R h1 fun v G' H' R' S' V N => ?_
    obtain ⟨G2, R2, S2, s2, V2⟩ := R'.freeze S' V N
    exact P v G2 H' R2 S2 V2 (by cases r1 <;> exact True.intro)
  · cases q
section
variable {i : Nat} {x : Str} {pos' : Pos}
theorem sd_set (i : Nat) (hN : X.N.Nodup) (h : ED X a fe) (hi : X.N[i]? = some x := by rfl) (hx : Loc X.env.scope x := by first | exact .inl rfl | exact .inr rfl) (hs : swapsWith a (some (.Name x pos')) pos.line X.env = pure false := by rfl) (hf : X.fn x = true ∨ X.env.scope.names.lookup x = some .local := by first | exact .inl rfl | exact .inr rfl | assumption) :
    SD X (.Assign [.Name x pos'] a pos) (s_set i fe) := by
  obtain ⟨t, p, k⟩ := h
  exact ⟨_, ps_set hN hi hx p hs hf, set_ok k⟩
theorem sd_setF (i : Nat) (hN : X.N.Nodup) (h : ED X a fe) (hi : X.N[i]? = some x := by rfl) (hx : Loc X.env.scope x := by first | exact .inl rfl | exact .inr rfl) (hs : swapsWith a (some (.Name x pos')) pos.line X.env = pure false := by rfl) (hf : X.fn x = true ∨ X.env.scope.names.lookup x = some .local := by first | exact .inl rfl | exact .inr rfl | assumption) :
    SD X (.Assign [.Name x pos'] a pos) (s_setF i fe) := by
  obtain ⟨t, p, k⟩ := h
  exact ⟨_, ps_set hN hi hx p hs hf, set_ok (frz_k k)⟩
end
section
variable {elt tg it : Expr} {ifs : List Expr} {scope : Scope} {own : List (Str × Nat)} {lpos spos : Pos} {fi : Fi} {S : List Nat} {γ : PyData → Ev → Option Ev} {tst : Ft} {fe : Fe} {x : Str} {pos' : Pos}
theorem sd_setLcF (i : Nat) (hc : X.calm = true) (hN : X.N.Nodup) (hi : ID X tg it fi) (ok : blkC X.N X.env.scope scope own = true) (hS : ∀ i ∈ S, i ∈ own.map (·.2))
    (hg : ∀ (s : Shared) (H : Hp) (C : Addr) (cl : List (Str × Addr)) (fp : List Addr), GD (X.blk s H scope (compEnvC scope cl C X.env) fp) tg S γ) (ht : ∀ (s : Shared) (H : Hp) (C : Addr) (cl : List (Str × Addr)) (fp : List Addr), PTD (X.blk s H scope (compEnvC scope cl C X.env) fp) ifs tst)
    (he : ∀ (s : Shared) (H : Hp) (C : Addr) (cl : List (Str × Addr)) (fp : List Addr), ED (X.blk s H scope (compEnvC scope cl C X.env) fp) elt fe) (hs : ∀ x, foldedSetIterable it X.env x = pure x := by intro _; rfl)
    (hy : X.N[i]? = some x := by rfl) (hyl : X.env.scope.names.lookup x = some .local := by rfl) (hsw : swapsWith (.ListComp elt [⟨tg, it, ifs, 0⟩] scope lpos) (some (.Name x pos')) spos.line X.env = pure true := by rfl) :
    SD X (.Assign [.Name x pos'] (.ListComp elt [⟨tg, it, ifs, 0⟩] scope lpos) spos) (s_setF i (x_lc fi γ tst fe (own.map (·.2)))) := by
  obtain ⟨wi, pi, k⟩ := hi
  exact ⟨_, ps_setLc hc hN hy hyl hsw pi (blkOk_by ok) (fun s H C cl fp => (hg s H C cl fp).can) (fun s H C cl fp => (ht s H C cl fp).ex) (fun s H C cl fp => (he s H C cl fp).can) hs, set_ok (frz_k (x_lc_ok hS k))⟩
end
def forGo (γ : PyData → Ev → Option Ev) (S : List Nat) (fb : Fs) : List PyData → Ev → Option Fl
  | [], e => some (.nx e)
  | d :: ds, e => if okS S e = true then (match γ d e with
    | some e2 => (match fb e2 with
      | some (.nx e3) => forGo γ S fb ds e3
      | some (.ct e3) => forGo γ S fb ds e3
      | some (.bk e3) => some (.nx e3)
      | some (.rt r e3) => some (.rt r e3)
      | none => none)
    | none => none) else none
def s_for (fi : Fi) (γ : PyData → Ev → Option Ev) (S : List Nat) (fb : Fs) : Fs := fun e => match fi e with
  | some (ds, e1) => forGo γ S fb ds e1
  | none => none
/-- whatever the rule of the statement: the items are told, the body is read -/
theorem sd_forG {PIx : TI → Prop} {st : Stmt} {tg : Expr} {body : List Stmt} {fi : Fi} {S : List Nat} {γ : PyData → Ev → Option Ev} {fb : Fs} (mk : ∀ {wi : TI} {g : TG} {tb : TS}, PIx wi → PG X tg g → PSs X body tb → PS X st (tFor wi g tb))
    (hi : ∃ wi, PIx wi ∧ ∀ (m : Option Addr) (E : Ef) (G0 G : Hp) (e : Ev) (σ : St) (H : Hp) (ds : List PyData) (e' : Ev) (Q : It → Hp → Prop),
    Rl X.K m E G0 G e σ H → fi e = some (ds, e') → (∀ J G' H', Rl X.K m E G0 G' e' σ H' → Stp σ G H e G' H' e' → WalkD X.K G' J ds → Q J H') → wi σ H Q) (hg : GD X tg S γ) (hb : SsD X body fb) : SD X st (s_for fi γ S fb) := by
  obtain ⟨wi, pi, ki⟩ := hi
  obtain ⟨g, pg, kg⟩ := hg
  obtain ⟨tb, pb, kb⟩ := hb
  refine ⟨_, mk pi pg pb, fun m E G0 G e σ H fl D R q P => ?_⟩
  unfold s_for at q
  cases h1 : fi e with
  | none => simp only [h1] at q; cases q
  | some z =>
    obtain ⟨ds, e1⟩ := z
    simp only [h1] at q
    refine ki m E G0 G e σ H ds e1 _ R.r h1 fun J G1 H1 R1 S1 W1 => ?_
    let W : Nat → Nat → St → Hp → Prop := fun i mm σ H => ∃ G2 e2, mm = ds.length - i ∧ i ≤ ds.length ∧ Rz X.K m E G0 G2 e2 σ H ∧ Same G1 G2 ∧ forGo γ S fb (ds.drop i) e2 = some fl
    refine ⟨W, ⟨ds.length, G1, e1, by simp, Nat.zero_le _, R.exp R1 S1, Same.refl _, by simpa using q⟩, ?_⟩
    rintro i mm σ2 H2 ⟨G2, e2, rfl, hi, R2, s2, lc⟩
    obtain ⟨wk, stop⟩ := W1 G2 H2 s2 R2.r.gh
    by_cases hlt : i < ds.length
    · have hd : ds.drop i = ds[i] :: ds.drop (i + 1) := by rw [List.drop_eq_getElem_cons hlt]
      have hget : ds[i]? = some ds[i] := List.getElem?_eq_getElem hlt
      rw [hd] at lc
      generalize ds[i] = d at lc hget hd
      obtain ⟨go, yl⟩ := wk i d hget
      refine .inr ⟨go, W (i + 1) (ds.length - (i + 1)), fun σ' H' h => ⟨_, by omega, h⟩, fun x H' y => ?_⟩
      have hY : ∃ G', Rz X.K m E G0 G' e2 σ2 H' ∧ Same G2 G' ∧ Dp X.K G' x d := by
        rcases yl x H' y with ⟨rfl, h⟩ | ⟨T, us, es, rfl, nT, rfl, rfl, h⟩
        · exact ⟨G2, R2, Same.refl _, h⟩
        · obtain ⟨R', S', D'⟩ := R2.r.newT nT h
          exact ⟨_, R2.exp R' S', S'.gg, D'⟩
      obtain ⟨G', R', s', dx⟩ := hY
      simp only [forGo] at lc
      by_cases ok : okS S e2 = true
      · rw [if_pos ok] at lc
        cases h2 : γ d e2 with
        | none => simp only [h2] at lc; cases lc
        | some e3 =>
          simp only [h2] at lc
          refine kg m E G0 G' e2 σ2 H' x d e3 _ R'.r dx h2 fun σ3 R3 out sl el ac1 => ?_
          have R3' : Rz X.K m E G0 G' e3 σ3 H' := ⟨R3, fun p z => by
            obtain ⟨z1, z2⟩ := R'.z p z
            obtain ⟨o1, o2⟩ := out 0 (okS_no ok z1)
            rw [o1, o2]
            exact ⟨z1, z2⟩⟩
          cases h3 : fb e3 with
          | none => simp only [h3] at lc; cases lc
          | some x3 =>
            refine kb m E G0 G' e3 σ3 H' x3 _ R3' h3 ?_
            cases x3 with
            | nx e4 =>
              simp only [h3] at lc
              exact fun G4 σ4 H4 s4 R4 => ⟨G4, e4, rfl, hlt, R4, s2.trans (s'.trans s4), lc⟩
            | ct e4 =>
              simp only [h3] at lc
              exact fun G4 σ4 H4 s4 R4 => ⟨G4, e4, rfl, hlt, R4, s2.trans (s'.trans s4), lc⟩
            | bk e4 =>
              simp only [h3, Option.some.injEq] at lc
              subst lc
              exact fun G4 σ4 H4 s4 R4 => P G4 σ4 H4 (S1.gg.trans (s2.trans (s'.trans s4))) R4
            | rt r e4 =>
              simp only [h3, Option.some.injEq] at lc
              subst lc
              exact fun v G4 σ4 H4 s4 R4 V => P v G4 σ4 H4 (S1.gg.trans (s2.trans (s'.trans s4))) R4 V
      · rw [if_neg ok] at lc
        cases lc
    · have hi2 : i = ds.length := by omega
      subst hi2
      rw [List.drop_length] at lc
      cases lc
      exact .inl ⟨stop, P G2 σ2 H2 (S1.gg.trans s2) R2⟩
theorem sd_for {tg it : Expr} {body : List Stmt} {fi : Fi} {S : List Nat} {γ : PyData → Ev → Option Ev} {fb : Fs} (hc : X.calm = true) (hp : PassesOwn (model X.prog X.w) X.A X.env X.xe) (hi : ID X tg it fi) (hg : GD X tg S γ) (hb : SsD X body fb)
    (hs : ∀ x, foldedSetIterable it X.env x = pure x := by intro _; rfl) : SD X (.For tg it body [] pos) (s_for fi γ S fb) := sd_forG (fun pi pg pb => ps_for hp hc pi pg pb hs) hi.ex hg hb
def whGo (tst : Ft) (fb : Fs) : Nat → Ev → Option Fl
  | 0, _ => none
  | n + 1, e => match tst e with
    | some (false, e1) => some (.nx e1)
    | some (true, e1) => (match fb e1 with
      | some (.nx e3) => whGo tst fb n e3
      | some (.ct e3) => whGo tst fb n e3
      | some (.bk e3) => some (.nx e3)
      | some (.rt r e3) => some (.rt r e3)
      | none => none)
    | none => none
def s_while (n : Ev → Nat) (tst : Ft) (fb : Fs) : Fs := fun e => whGo tst fb (n e) e
theorem sd_while (n : Ev → Nat) {c : Expr} {body : List Stmt} {tst : Ft} {fb : Fs} (hp : PassesOwn (model X.prog X.w) X.A X.env X.xe) (hc : TD X c tst) (hb : SsD X body fb) : SD X (.While c body [] pos) (s_while n tst fb) := by
  obtain ⟨tc, pc, kc⟩ := hc
  obtain ⟨tb, pb, kb⟩ := hb
  refine ⟨_, ps_while hp pc pb, fun m E G0 G e σ H fl D R q P => ?_⟩
  let W : Nat → St → Hp → Prop := fun mm σ H => ∃ G2 e2, Rz X.K m E G0 G2 e2 σ H ∧ Same G G2 ∧ whGo tst fb mm e2 = some fl
  refine ⟨W, ⟨n e, G, e, R, Same.refl _, q⟩, ?_⟩
  rintro mm σ2 H2 ⟨G2, e2, R2, s2, lc⟩
  cases mm with
  | zero => cases lc
  | succ mm =>
    simp only [whGo] at lc
    cases h1 : tst e2 with
    | none => simp only [h1] at lc; cases lc
    | some z =>
      obtain ⟨b, e3⟩ := z
      refine kc m E G0 G2 e2 σ2 H2 b e3 _ R2.r h1 fun G3 H3 R3 S3 => ?_
      have Rx := R2.exp R3 S3
      cases b with
      | false =>
        simp only [h1, Option.some.injEq] at lc
        subst lc
        rw [if_neg Bool.false_ne_true]
        exact P G3 σ2 H3 (s2.trans S3.gg) Rx
      | true =>
        simp only [h1] at lc
        rw [if_pos rfl]
        refine ⟨W mm, fun σ' H' h => ⟨mm, Nat.lt_succ_self _, h⟩, ?_⟩
        cases h3 : fb e3 with
        | none => simp only [h3] at lc; cases lc
        | some x3 =>
          refine kb m E G0 G3 e3 σ2 H3 x3 _ Rx h3 ?_
          cases x3 with
          | nx e4 =>
            simp only [h3] at lc
            exact fun G4 σ4 H4 s4 R4 => ⟨G4, e4, R4, s2.trans (S3.gg.trans s4), lc⟩
          | ct e4 =>
            simp only [h3] at lc
            exact fun G4 σ4 H4 s4 R4 => ⟨G4, e4, R4, s2.trans (S3.gg.trans s4), lc⟩
          | bk e4 =>
            simp only [h3, Option.some.injEq] at lc
            subst lc
            exact fun G4 σ4 H4 s4 R4 => P G4 σ4 H4 (s2.trans (S3.gg.trans s4)) R4
          | rt r e4 =>
            simp only [h3, Option.some.injEq] at lc
            subst lc
            exact fun v G4 σ4 H4 s4 R4 V => P v G4 σ4 H4 (s2.trans (S3.gg.trans s4)) R4 V
def fzE (j : Nat) (e : Ev) : Ev := match e[j]? with
  | some (some (.ac ds)) => e.set j (some (.im (.list ds)))
  | _ => e
theorem Rz.fz {K : PySem.W.Frag} {m : Option Addr} {E : Ef} {G0 G H : Hp} {e : Ev} {σ : St} {j : Nat} (R : Rz K m E G0 G e σ H) (hj : j ≠ 0) : ∃ G', Same G G' ∧ Rz K m E G0 G' (fzE j e) σ H := by
  unfold fzE
  split
  · rename_i ds h
    obtain ⟨p, ws, h1, h2, h3, h4, h5⟩ := R.r.ac j ds h
    have hE : E p = none := by
      rcases h5 with h5 | h5
      · exact h5
      · exact absurd h5.2 hj
    have s1 : Same G (upd G p (.lst ws)) := same_new h2
    have hl : j < e.length := (List.getElem?_eq_some_iff.mp h).1
    refine ⟨upd G p (.lst ws), s1, ⟨⟨R.r.gg.trans s1, fun b o q => ?_, R.r.eh, R.r.mh, fun b b1 b2 => ?_, by rw [List.length_set]; exact R.r.len, fun i d q => ?_, fun i di q => ?_, fun i k di dk p' q1 q2 q3 q4 => ?_, fun i dss q => ?_⟩, fun p' z => ?_⟩⟩
    · by_cases z : b = p
      · rw [z, upd_same] at q
        rw [z, h3]
        exact q
      · rw [upd_ne z] at q
        exact R.r.gh b o q
    · have z : b ≠ p := fun z => b2 (by rw [z]; exact hE)
      rw [upd_ne z]
      exact R.r.nw b b1 b2
    · rw [set_get] at q
      by_cases z : j = i ∧ i < e.length
      · rw [if_pos z] at q
        cases q
        rw [← z.1]
        exact ⟨_, h1, .lst (.inl (.inl upd_same)) (dpAll_same s1 h4)⟩
      · rw [if_neg z] at q
        obtain ⟨v, a1, a2⟩ := R.r.im i d q
        exact ⟨v, a1, dp_same s1 a2⟩
    · rw [set_get] at q
      by_cases z : j = i ∧ i < e.length
      · rw [if_pos z] at q
        cases q
      · rw [if_neg z] at q
        obtain ⟨p', ws', a1, a2, a3, a4, a5⟩ := R.r.ac i di q
        have n : p' ≠ p := fun y => by
          rw [y] at a1
          have := R.r.inj j i ds di p h q h1 a1
          exact z ⟨this, by rw [← this]; exact hl⟩
        exact ⟨p', ws', a1, by rw [upd_ne n]; exact a2, a3, dpAll_same s1 a4, a5⟩
    · rw [set_get] at q1 q2
      by_cases z : j = i ∧ i < e.length
      · rw [if_pos z] at q1
        cases q1
      · rw [if_neg z] at q1
        by_cases z : j = k ∧ k < e.length
        · rw [if_pos z] at q2
          cases q2
        · rw [if_neg z] at q2
          exact R.r.inj i k di dk p' q1 q2 q3 q4
    · rw [set_get] at q
      by_cases z : j = i ∧ i < e.length
      · rw [if_pos z] at q
        cases q
        exact True.intro
      · rw [if_neg z] at q
        exact (R.r.ot i dss q).mono s1
    · obtain ⟨z1, z2⟩ := R.z p' z
      rw [List.getElem?_set_ne hj]
      exact ⟨z1, z2⟩
  · exact ⟨G, Same.refl _, R⟩
def s_fz (j : Nat) (f : Fs) : Fs := fun e => f (fzE j e)
theorem SD.fz (j : Nat) (h : SD X st f) (hj : j ≠ 0 := by decide) : SD X st (s_fz j f) := by
  obtain ⟨t, p, k⟩ := h
  refine ⟨_, p, fun m E G0 G e σ H fl D R q P => ?_⟩
  obtain ⟨G', s, R'⟩ := R.fz hj
  exact k m E G0 G' _ σ H fl D R' q (P.aft s)
end
end DL
namespace DL
open PySem PySem.Spec PyProof.Rows L2
section
variable {K : PySem.W.Frag} {m : Option Addr} {E : Ef} {G0 G H : Hp} {e : Ev} {σ : St} {i : Nat} {p : Addr} {d0 ds : List PyData} {ws : List V}
theorem Rl.put (R : Rl K m E G0 G e σ H) (h : e[i]? = some (some (.ac d0))) (hp : σ[i]? = some (some (.ref p))) (q : DpAll K G ws ds) :
    Rl K m E G0 G (e.set i (some (.ac ds))) σ (upd H p (.lst ws)) ∧ Stp σ G H e G (upd H p (.lst ws)) (e.set i (some (.ac ds))) := by
  obtain ⟨p', w0, h1, h2, h3, h4, h5⟩ := R.ac i d0 h
  rw [hp] at h1
  cases h1
  have hl : i < e.length := (List.getElem?_eq_some_iff.mp h).1
  refine ⟨⟨R.gg, fun b o z => ?_, fun b o z1 z2 => ?_, fun b z => ⟨(R.mh b z).1, ?_⟩, R.nw, by rw [List.length_set]; exact R.len, fun j d z => ?_, fun j dj z => ?_, fun j k dj dk p' q1 q2 q3 q4 => ?_, fun j dss z => ?_⟩,
    Same.refl _, fun _ z _ => z, fun a o z1 z2 => ?_, fun j => ?_, fun a z => ?_⟩
  · rw [upd_ne (ne_of_none z h2)]
    exact R.gh b o z
  · have n : b ≠ p := fun y => by
      rcases h5 with h5 | h5
      · rw [y, h5] at z1
        cases z1
      · exact z2 (by rw [y]; exact h5.1)
    rw [upd_ne n]
    exact R.eh b o z1 z2
  · by_cases n : b = p
    · rw [n, upd_same]
      simp
    · rw [upd_ne n]
      exact (R.mh b z).2
  · rw [set_get] at z
    by_cases y : i = j ∧ j < e.length
    · rw [if_pos y] at z
      cases z
    · rw [if_neg y] at z
      exact R.im j d z
  · rw [set_get] at z
    by_cases y : i = j ∧ j < e.length
    · rw [if_pos y] at z
      cases z
      rw [← y.1]
      exact ⟨p, ws, hp, h2, upd_same, q, h5⟩
    · rw [if_neg y] at z
      obtain ⟨p', ws', a1, a2, a3, a4, a5⟩ := R.ac j dj z
      have n : p' ≠ p := fun y2 => by
        rw [y2] at a1
        have := R.inj i j d0 dj p h z hp a1
        exact y ⟨this, by rw [← this]; exact hl⟩
      exact ⟨p', ws', a1, a2, by rw [upd_ne n]; exact a3, a4, a5⟩
  · have old : ∀ {j : Nat} {dj : List PyData}, (e.set i (some (.ac ds)))[j]? = some (some (.ac dj)) → ∃ dj', e[j]? = some (some (.ac dj')) := fun {j dj} z => by
      rw [set_get] at z
      by_cases y : i = j ∧ j < e.length
      · exact ⟨d0, by rw [← y.1]; exact h⟩
      · rw [if_neg y] at z
        exact ⟨dj, z⟩
    obtain ⟨d1, o1⟩ := old q1
    obtain ⟨d2, o2⟩ := old q2
    exact R.inj j k d1 d2 p' o1 o2 q3 q4
  · rw [set_get] at z
    by_cases y : i = j ∧ j < e.length
    · rw [if_pos y] at z
      cases z
      exact True.intro
    · rw [if_neg y] at z
      exact R.ot j dss z
  · have n : a ≠ p := fun y => z2 ⟨i, d0, h, by rw [y]; exact hp⟩
    rw [upd_ne n]
    exact z1
  · rw [set_get]
    by_cases y : i = j ∧ j < e.length
    · rw [if_pos y, ← y.1, h]
      rfl
    · rw [if_neg y]
  · by_cases n : a = p
    · rw [n, upd_same]
      simp
    · rw [upd_ne n]
      exact z
end
section
variable {X : Cx} {a b : Expr} {fa fb : Fe} {pos : Pos}
def x_app (i : Nat) (fa : Fe) : Fe := fun e => if isAc e[i]? = true then (match fa e with
  | some (r, e1) => (match imR (frzR r), e1[i]? with
    | some d, some (some (.ac ds)) => if okLen (ds.length + 1) = true then some (.im .none, e1.set i (some (.ac (ds ++ [d])))) else none
    | _, _ => none)
  | none => none) else none
theorem frz_im {r : Rs} {d : PyData} (h : imR (frzR r) = some d) : frzR r = .im d := by
  cases r with
  | im d =>
    cases h
    rfl
  | ac ds =>
    cases h
    rfl
  | br i => cases h
theorem Rl.acP {K : PySem.W.Frag} {m : Option Addr} {E : Ef} {G0 G H : Hp} {e : Ev} {σ : St} {i : Nat} (R : Rl K m E G0 G e σ H) (h : isAc e[i]? = true) :
    ∃ p ws, σ[i]? = some (some (.ref p)) ∧ H p = some (.lst ws) := by
  obtain ⟨ds', q⟩ := isAc_iff.mp h
  obtain ⟨p, ws, h1, h2, h3, _⟩ := R.ac i ds' q
  exact ⟨p, ws, h1, h3⟩
theorem len_lt {n : Nat} (h : okLen (n + 1) = true) : n < sizeLine := by
  have := okLen_ok h
  omega
/-- xs.append(e) -/
theorem ed_app (i : Nat) {x : Str} {np apos : Pos} (ha : ED X a fa) (hN : X.N[i]? = some x := by rfl)
    (hv : Vis X.env.scope x := by first | exact Or.inl rfl | exact Or.inr (Or.inl rfl) | exact Or.inr (Or.inr rfl)) (hd : (x == ("__debug__" : Str)) = false := by decide) (hcd : (x == ("__classdict__" : Str)) = false := by decide)
    (hbase : attributeBase (.Name x np) "append" X.env (eval (.Name x np) X.env) = eval (.Name x np) X.env := by rfl)
    (hfew : ((backTo pos (starEach [a] X.env)).all (fun x => !x.1) && (backToKw pos (keywordEach [] X.env)).all (fun x => x.1.isSome)
      && decide (([a] : List Expr).length + ([] : List Keyword).length + (if ([] : List Keyword).isEmpty then 0 else 1) < 30)) = true := by rfl)
    (hline : (apos.endLine == pos.line) = true := by rfl) (hs : starEach [a] X.env = (false, eval a X.env) :: starEach [] X.env := by rfl) (hplain : (backTo pos (starEach [] X.env)).any (·.1) = false := by rfl) :
    ED X (.Call (.Attribute (.Name x np) "append" apos) [a] [] pos) (x_app i fa) := by
  obtain ⟨t, p, k⟩ := ha
  refine ⟨_, pe_bm PySem.F.plainAttrs_list PySem.F.slot_list_append PySem.F.type_list_append mt_append (pe_var hN hv hd hcd) (pa_cons p pa_nil hs) hbase hfew hline hs hplain, fun m E G0 G e σ H r e' Q R q P => ?_⟩
  unfold x_app at q
  by_cases h0 : isAc e[i]? = true
  · rw [if_pos h0] at q
    obtain ⟨l, w0, hσ, hl⟩ := R.acP h0
    refine ⟨.ref l, hσ, .inl ⟨rfl, w0, .inl (.inl hl)⟩, ?_⟩
    split at q
    · rename_i r1 e1 h1
      split at q
      · rename_i d ds h2 h3
        by_cases h4 : okLen (ds.length + 1) = true
        · rw [if_pos h4] at q
          cases q
          refine k m E G0 G e σ H r1 e1 _ R h1 fun v G1 H1 R1 S1 V1 N1 => ?_
          obtain ⟨G2, R2, S2, s2, V2⟩ := R1.freeze S1 V1 N1
          rw [frz_im h2] at V2
          obtain ⟨p', ws, q1, q2, q3, q4, q5⟩ := R2.ac i ds h3
          rw [hσ] at q1
          cases q1
          obtain ⟨R3, S3⟩ := R2.put h3 hσ (dpAll_app q4 (.cons V2 .nil))
          exact ⟨l, ws, v, rfl, rfl, q3, by rw [dpAll_len q4]; exact len_lt h4, P .non G2 _ R3 (S2.trans S3) .non True.intro⟩
        · rw [if_neg h4] at q
          cases q
      · cases q
    · cases q
  · rw [if_neg h0] at q
    cases q
def s_put (i : Nat) (fv fk : Fe) : Fs := fun e => match fv e with
  | some (r, e1) => if isAc e1[i]? = true then (match imR (frzR r), fk e1 with
    | some d, some (.im (.int k), e2) => (match e2[i]? with
      | some (some (.ac ds)) => (match ixN ds.length k with
        | some j => some (.nx (e2.set i (some (.ac (ds.set j d)))))
        | none => none)
      | _ => none)
    | _, _ => none) else none
  | none => none
theorem sd_put (i : Nat) {x : Str} {np tp : Pos} (hv' : ED X a fa) (hk : ED X b fb) (hN : X.N[i]? = some x := by rfl)
    (hv : Vis X.env.scope x := by first | exact Or.inl rfl | exact Or.inr (Or.inl rfl) | exact Or.inr (Or.inr rfl)) (hd : (x == ("__debug__" : Str)) = false := by decide) (hcd : (x == ("__classdict__" : Str)) = false := by decide)
    (hs : swapsWithSole [.Subscript (.Name x np) b tp] a pos.line X.env = pure false := by rfl) (hw : swappedStores [.Subscript (.Name x np) b tp] a X.env = pure none := by rfl)
    (h1 : (assignEach [.Subscript (.Name x np) b tp] X.env).map (·.2) = [assign (.Subscript (.Name x np) b tp) X.env] := by rfl)
    (hz : ∀ v, assign (.Subscript (.Name x np) b tp) X.env v = (do
      let ov ← holding [v] (eval (.Name x np) X.env)
      let iv ← holding [v, ov] (eval b X.env)
      standAt tp
      holding [v, ov, iv] (setItem ov iv v)
      release [v, ov, iv] []) := by intros; rfl) : SD X (.Assign [.Subscript (.Name x np) b tp] a pos) (s_put i fa fb) := by
  obtain ⟨t, p, k⟩ := hv'
  obtain ⟨t2, p2, k2⟩ := hk
  refine ⟨_, ps_asg p (pg_sub (pe_var hN hv hd hcd) p2 set_list hz) hs hw h1, fun m E G0 G e σ H fl D R q P => ?_⟩
  unfold s_put at q
  split at q
  · rename_i r e1 h1
    by_cases h0 : isAc e1[i]? = true
    · rw [if_pos h0] at q
      split at q
      · rename_i d kk e2 h2 h3
        split at q
        · rename_i ds h4
          split at q
          · rename_i j h5
            cases q
            refine k m E G0 G e σ H r e1 _ R.r h1 fun v G1 H1 R1 S1 V1 N1 => ?_
            obtain ⟨G2, R2, S2, s2, V2⟩ := R1.freeze S1 V1 N1
            rw [frz_im h2] at V2
            obtain ⟨l, w0, hσ, hl⟩ := R2.acP h0
            refine ⟨.ref l, hσ, ?_⟩
            refine k2 m E G0 G2 e1 σ H1 _ e2 _ R2 h3 fun u G3 H3 R3 S3 V3 N3 => ?_
            cases V3
            obtain ⟨p', ws, q1, q2, q3, q4, q5⟩ := R3.ac i ds h4
            rw [hσ] at q1
            cases q1
            obtain ⟨R4, S4⟩ := R3.put h4 hσ (dpAll_set j q4 (dp_same S3.gg V2))
            exact ⟨l, ws, kk, j, rfl, rfl, q3, by rw [dpAll_len q4]; exact h5, P G3 σ _ (S2.gg.trans S3.gg) (R.exp R4 (S2.trans (S3.trans S4)))⟩
          · cases q
        · cases q
      · cases q
    · rw [if_neg h0] at q
      cases q
  · cases q
end
end DL
namespace DL
open PySem PySem.Spec PyProof.Rows L2
def VrF (K : PySem.W.Frag) (G H H' : Hp) (v : V) : Rs → Prop
  | .im d => Dp K G v d
  | .ac ds => ∃ p ws, v = .ref p ∧ H p = none ∧ G p = none ∧ H' p = some (.lst ws) ∧ DpAll K G ws ds
  | .br _ => False
/-- n data in, a result out -/
def spD (K : PySem.W.Frag) (n : Nat) (φ : List PyData → Option Rs) : Sp := fun vs H Q _ => ∃ G ds r, Same G H ∧ DpAll K G vs ds ∧ vs.length = n ∧ φ ds = some r ∧
  ∀ v G' H', Same G G' → Same G' H' → Same H H' → (∀ a, G a = none → H a ≠ none → G' a = none) → VrF K G' H H' v r → Q v H'
/-- a def of the module that is kept: where it lies, what it promises, how it is called -/
inductive Kf (P : Program) (w : World) (K : PySem.W.Frag) (mg : Str → Option Value) (base : Heap) (k : Nat) (x : Str) (sp : Sp) (dvs : List V) : Prop where
  | kept (at_ : Addr) (fd : FuncData) (names : List Str) (given : List Value) (fn : FnOk P w K mg base CX0 k at_ fd names sp) (here : mg x = some (.ref at_)) (stays : PySem.W.keepIn K (.ref at_) = true) (binds : Binds K fd names given) (vals : Vals dvs given)
def x_call (φ : List PyData → Option Rs) (dds : List PyData) (fa : Fa) : Fe := fun e => match argsI fa e with
  | some (ds, e1) => (match φ (ds ++ dds) with
    | some (.im d) => some (.im d, e1)
    | some (.ac cs) => some (.ac cs, e1)
    | _ => none)
  | none => none
section
variable {K : PySem.W.Frag} {m : Option Addr} {E : Ef} {G0 G G' H H' : Hp} {e : Ev} {σ : St} {v : V} {r : Rs}
/-- behind a call that writes nothing -/
theorem Rl.called (R : Rl K m E G0 G e σ H) (s1 : Same G G') (s2 : Same G' H') (s3 : Same H H') (n : ∀ a, G a = none → H a ≠ none → G' a = none) : Rl K m E G0 G' e σ H' ∧ Stp σ G H e G' H' e := by
  have th : ∀ a, H a ≠ none → H' a ≠ none := fun a z => by
    cases q : H a with
    | none => exact absurd q z
    | some o => rw [s3 a o q]; simp
  refine ⟨⟨R.gg.trans s1, s2, fun a o z1 z2 => s3 a o (R.eh a o z1 z2), fun a z => ⟨(R.mh a z).1, th a (R.mh a z).2⟩, fun a z1 z2 => n a (R.nw a z1 z2) ?_, R.len, fun i d q => ?_, fun i ds q => ?_, R.inj, fun i dss q => (R.ot i dss q).mono s1⟩, s1, n, fun a o z _ => s3 a o z, fun _ => rfl, th⟩
  · by_cases y : m = some a
    · exact (R.mh a y).2
    · cases q : E a with
      | none => exact absurd q z2
      | some o => rw [R.eh a o q y]; simp
  · obtain ⟨v, h1, h2⟩ := R.im i d q
    exact ⟨v, h1, dp_same s1 h2⟩
  · obtain ⟨p, ws, h1, h2, h3, h4, h5⟩ := R.ac i ds q
    exact ⟨p, ws, h1, n p h2 (by rw [h3]; simp), s3 p _ h3, dpAll_same s1 h4, h5⟩
theorem Rl.vrf (R : Rl K m E G0 G e σ H) (h : VrF K G' H H' v r) : Vr K E G' H' σ e v r ∧ Nw H v r := by
  cases r with
  | im d => exact ⟨h, True.intro⟩
  | br i => exact h.elim
  | ac ds =>
    obtain ⟨p, ws, rfl, h1, h2, h3, h4⟩ := h
    obtain ⟨f1, f2, f3, f4⟩ := R.fresh h1
    exact ⟨⟨p, ws, rfl, f2, h2, h3, h4, f3⟩, fun q z => by
      cases z
      exact h1⟩
end
def dvsD (K : PySem.W.Frag) (dvs : List V) (dds : List PyData) : Prop := ∀ G : Hp, DpAll K G dvs dds
theorem dvs0 {K : PySem.W.Frag} : dvsD K [] [] := fun _ => .nil
theorem dvsI {K : PySem.W.Frag} {i : Int} {vs : List V} {ds : List PyData} (h : dvsD K vs ds) : dvsD K (.int i :: vs) (.int i :: ds) := fun G => .cons (.int i) (h G)
section
variable {X : Cx} {a : Expr} {es : List Expr} {fa : Fa} {p pos : Pos} {x : Str} {j k n : Nat} {dvs : List V} {dds : List PyData}
theorem call_ok {φ : List PyData → Option Rs} {t : TA} (hd : dvsD X.K dvs dds) (hn : ∀ ds, (φ ds).isSome = true → ds.length = n)
    (kk : ∀ (m : Option Addr) (E : Ef) (G0 G : Hp) (e : Ev) (σ : St) (H : Hp) (rs : List Rs) (e' : Ev) (Q : List V → Hp → Prop),
    Rl X.K m E G0 G e σ H → fa e = some (rs, e') → (∀ vs G' H', Rl X.K m E G0 G' e' σ H' → Stp σ G H e G' H' e' → VrAll X.K E G' H' σ e' vs rs → Q vs H') → t σ H Q)
    (m : Option Addr) (E : Ef) (G0 G : Hp) (e : Ev) (σ : St) (H : Hp) (rr : Rs) (e' : Ev) (Q : VK) (R : Rl X.K m E G0 G e σ H) (q : x_call φ dds fa e = some (rr, e')) (P : Po X.K m E G0 σ G H e rr e' Q) : tCall (spD X.K n φ) dvs E0 t σ H Q := by
  unfold x_call at q
  cases h1 : argsI fa e with
  | none => simp only [h1] at q; cases q
  | some z =>
    obtain ⟨ds, e1⟩ := z
    simp only [h1] at q
    obtain ⟨rs, q1, q2⟩ := argsI_ok h1
    have main : ∀ r, φ (ds ++ dds) = some r → r = rr ∧ e1 = e' → tCall (spD X.K n φ) dvs E0 t σ H Q := fun r h2 ⟨z1, z2⟩ => by
      subst z1 z2
      refine kk m E G0 G e σ H rs e1 _ R q1 fun vs G1 H1 R1 S1 V1 => ?_
      have D1 := vr_imAll V1 q2
      have D2 := dpAll_app D1 (hd G1)
      refine ⟨G1, ds ++ dds, r, R1.gh, D2, ?_, h2, fun v G' H' s1 s2 s3 nw vr => ?_⟩
      · rw [dpAll_len D2]
        exact hn _ (by rw [h2]; rfl)
      · obtain ⟨R2, S2⟩ := R1.called s1 s2 s3 nw
        obtain ⟨V2, N2⟩ := R1.vrf vr
        exact P v G' H' R2 (S1.trans S2) V2 (nw_back S1 v N2)
    cases h2 : φ (ds ++ dds) with
    | none => simp only [h2] at q; cases q
    | some r =>
      cases r with
      | im d =>
        simp only [h2, Option.some.injEq, Prod.mk.injEq] at q
        exact main _ h2 q
      | ac d =>
        simp only [h2, Option.some.injEq, Prod.mk.injEq] at q
        exact main _ h2 q
      | br d => simp only [h2] at q; cases q
theorem ed_call {φ : List PyData → Option Rs} (F : Kf X.prog X.w X.K X.mg X.base k x (spD X.K n φ) dvs) (hr : Room j X.A) (hk : k ≤ j) (hd : dvsD X.K dvs dds) (hn : ∀ ds, (φ ds).isSome = true → ds.length = n) (h : AD X (a :: es) fa) (hg : Gl X x := by rfl)
    (hdb : (x == ("__debug__" : Str)) = false := by decide) (he : starEach (a :: es) X.env = (false, eval a X.env) :: starEach es X.env := by rfl) (hpl : (backTo pos (starEach es X.env)).any (·.1) = false := by rfl) :
    ED X (.Call (.Name x p) (a :: es) [] pos) (x_call φ dds fa) := by
  obtain ⟨f, fd, ps, ds, F, hm, kp, hb, hv⟩ := F
  obtain ⟨t, pa, kk⟩ := h
  exact ⟨_, pe_call F (hr.mono hk) hg hm kp hb hv (E := E0) (fun _ _ _ _ _ _ _ z => z.elim) pa hdb he hpl, call_ok hd hn kk⟩
end
def finR (r : Rs) (e : Ev) : Option Rs := match r with
  | .im d => some (.im d)
  | .ac ds => some (.ac ds)
  | .br i => (match e[i]? with
    | some (some (.ac ds)) => some (.ac ds)
    | _ => none)
def env0 (ds : List PyData) (nl : Nat) : Ev := ds.map (fun d => some (Sl.im d)) ++ List.replicate nl none
def runF (n nl : Nat) (g : Fs) (ds : List PyData) : Option Rs := if ds.length = n then (match g (env0 ds nl) with
  | some (.rt r e) => finR r e
  | some (.nx _) => some (.im .none)
  | _ => none) else none
theorem runF_len {n nl : Nat} {g : Fs} : ∀ ds, (runF n nl g ds).isSome = true → ds.length = n := fun ds h => by
  unfold runF at h
  by_cases z : ds.length = n
  · exact z
  · rw [if_neg z] at h
    cases h
section
variable {K : PySem.W.Frag} {G H : Hp} {vs us : List V} {ds c : List PyData} {nl : Nat}
theorem env0_at {i : Nat} {s : Sl} (h : (env0 ds nl)[i]? = some (some s)) : ∃ d, ds[i]? = some d ∧ s = .im d := by
  unfold env0 at h
  by_cases hi : i < ds.length
  · rw [List.getElem?_append_left (by rw [List.length_map]; exact hi), List.getElem?_map] at h
    cases z : ds[i]? with
    | none => rw [z] at h; cases h
    | some d =>
      rw [z] at h
      cases h
      exact ⟨d, rfl, rfl⟩
  · rw [List.getElem?_append_right (by rw [List.length_map]; omega)] at h
    rw [List.getElem?_replicate] at h
    split at h
    · cases h
    · cases h
theorem st_at {i : Nat} {v : V} {N : List Str} (h : vs[i]? = some v) : (L2.start N vs)[i]? = some (some v) := by
  unfold L2.start
  have hi := (List.getElem?_eq_some_iff.mp h).1
  rw [List.getElem?_append_left (by rw [List.length_map]; exact hi), List.getElem?_map, h]
  rfl
theorem rz_start {N : List Str} (s : Same G H) (q : DpAll K G vs ds) (hl : vs.length + nl = N.length) : Rz K none (Ef.of H) G G (env0 ds nl) (L2.start N vs) H := by
  refine ⟨⟨Same.refl _, s, fun a o z _ => z, fun a z => (by cases z), fun a z _ => z, ?_, fun i d z => ?_, fun i d z => ?_, fun i j di dj p z => ?_, fun i dss z => ?_⟩, fun p z => by cases z⟩
  · unfold env0 L2.start
    simp only [List.length_append, List.length_map, List.length_replicate]
    rw [dpAll_len q] at hl ⊢
    omega
  · obtain ⟨d', z1, z2⟩ := env0_at z
    cases z2
    obtain ⟨v, z3, z4⟩ := dpAll_get q z1
    exact ⟨v, st_at z3, z4⟩
  · obtain ⟨d', z1, z2⟩ := env0_at z
    cases z2
  · obtain ⟨d', z1, z2⟩ := env0_at z
    cases z2
  · obtain ⟨d', z1, z2⟩ := env0_at z
    cases z2
    exact True.intro
end
section
variable {P : Program} {w : World} {K : PySem.W.Frag} {mg : Str → Option Value} {base : Heap} {x qual : Str} {params : Arguments} {body : List Stmt} {scope : Scope} {dvs : List V} {kws : List (Str × V)} {f : Addr} {fd : FuncData} {N ps : List Str} {k n nl : Nat} {g : Fs}
theorem fnD (F : FunD K x qual params body scope dvs kws f fd) (S : FnScope N ps scope) (hp : ps.length = n) (hl : n + nl = N.length)
    (hb : ∀ (cdv : Value) (A : Around) (outer : List Env) (s : Shared) (H : Hp) (E : XK), Room k (A.deeper (envOfC qual scope s.heap.objs.size f cdv)) → SsD (cxOf CX0 P w K mg base N qual scope f cdv A outer s H E).nox body g) :
    FnOk P w K mg base CX0 (k + 1) f fd ps (spD K n (runF n nl g)) := by
  refine F.ok S (fun vs H Q E h => ?_) fun cdv A outer s H vs Q E hr h => ?_
  · obtain ⟨_, _, _, _, _, h, _⟩ := h
    rw [h, hp]
  · obtain ⟨t, pt, kt⟩ := hb cdv A outer s H E hr
    obtain ⟨G, ds, r, s1, hd, hv, hr2, hQ⟩ := h
    refine ⟨t, pt.nox, ?_⟩
    have Rz0 : Rz K none (Ef.of H) G G (env0 ds nl) (L2.start N vs) H := rz_start s1 hd (by omega)
    unfold runF at hr2
    rw [if_pos (by rw [← dpAll_len hd]; exact hv)] at hr2
    split at hr2
    · rename_i r' e' h1
      refine kt none (Ef.of H) G G _ _ H _ _ Rz0 h1 fun v G' σ' H' s2 R' V' => ?_
      have hh : Same H H' := fun a o z => R'.r.eh a o z (by simp)
      have nw : ∀ a, G a = none → H a ≠ none → G' a = none := R'.r.nw
      refine hQ v G' H' s2 R'.r.gh hh nw ?_
      unfold finR at hr2
      cases r' with
      | im d =>
        cases hr2
        exact V'
      | ac d =>
        cases hr2
        obtain ⟨p, ws, a1, a2, a3, a4, a5, _⟩ := V'
        exact ⟨p, ws, a1, a2, a3, a4, a5⟩
      | br i =>
        dsimp only at hr2
        split at hr2
        · rename_i d h2
          cases hr2
          obtain ⟨d', b1, b2⟩ := V'
          obtain ⟨p, ws, a1, a2, a3, a4, a5⟩ := R'.r.ac i d h2
          rw [a1] at b2
          cases b2
          have a5 : H p = none := by
            rcases a5 with a5 | a5
            · exact a5
            · cases a5.1
          exact ⟨p, ws, rfl, a5, a2, a3, a4⟩
        · cases hr2
    · rename_i e' h1
      cases hr2
      refine kt none (Ef.of H) G G _ _ H _ _ Rz0 h1 fun G' σ' H' s2 R' => ?_
      exact hQ .non G' H' s2 R'.r.gh (fun a o z => R'.r.eh a o z (by simp)) R'.r.nw .non
    · cases hr2
end
end DL
namespace DL
open PySem PySem.Spec PyProof.Rows L2
end DL
namespace DL
open PySem PySem.Spec PySem.W PyProof.Rows L2 Calls
def tI (k : List Int) : PyData := .tuple (k.map PyData.int)
def upT (ks : List (List Int)) : List (List Int) := ks.mergeSort fun p q => decide (p ≤ q)
def okT (ks : List (List Int)) : Bool := decide (ks.length ≤ 1) || ks.all fun k => !k.isEmpty
theorem upT_perm (ks : List (List Int)) : (upT ks).Perm ks := List.mergeSort_perm _ _
theorem dataLe_tups : dataLe false tI = fun p q => decide (p ≤ q) := dataLe_rows fun k : List Int => k
theorem alike_tI (p q : List Int) : alike (tI p) (tI q) = true := alike_ints p q
theorem depth_tI (p : List Int) : (tI p).depth ≤ 1 := by
  show PyData.depthAll (p.map .int) + 1 ≤ 1
  rw [depth_ints]
  exact Nat.le_refl _
theorem okT_two {ks : List (List Int)} (h : okT ks = true) (h2 : ¬ ks.length ≤ 1) : Sortable (ks.map tI) := by
  unfold okT at h
  rw [Bool.or_eq_true, decide_eq_true_eq] at h
  rcases h with h | h
  · exact absurd h h2
  · refine .inl fun d hd => ?_
    obtain ⟨k, hk, rfl⟩ := List.mem_map.mp hd
    have z := List.all_eq_true.mp h k hk
    cases k with
    | nil => cases z
    | cons i k => exact ⟨.int i, k.map .int, rfl⟩
theorem perm_one {α : Type} {xs ys : List α} (p : xs.Perm ys) (h : ys.length ≤ 1) : xs = ys := by
  match ys, h with
  | [], _ => exact p.eq_nil
  | [y], _ => exact List.perm_singleton.mp p
theorem upT_one {ks : List (List Int)} (h : ks.length ≤ 1) : upT ks = ks := perm_one (upT_perm ks) h
section
variable {prog : Program} {w : World} {A : Around} {E : Value → Shared → Prop} {s : Shared} {vs : List Value} {ks : List (List Int)} {R : Value → List Int → Prop}
/-- one item or none: nothing is compared -/
theorem sort_few {a : Addr} {n : Nat} {P : PySem.Fin → Shared → Prop} (ho : s.heap.get? a = some (seqObj "list" vs.toArray n)) (h1 : vs.length ≤ 1) (h : P (.done (.ret .none)) { s with heap := sortedHeap s.heap a vs vs.toArray }) :
    wpAny (model prog w) A (Builtin.«list.sort» ⟨[.ref a], []⟩) P E s := by
  refine SK.plain_sort (r := fun _ => 0) ho (by omega) (fun h2 => by omega) fun ps out e1 e2 _ => ?_
  have e3 : out.toList = vs := by
    have z := e2.map Prod.snd
    rw [← e1, List.map_snd_zip (Nat.le_refl _)] at z
    exact perm_one z h1
  have e4 : out = vs.toArray := by rw [← e3]
  rw [e4]
  exact h
theorem sorted_tlist {l : Addr} {Q : Value → Shared → Prop} (hl : s.heap.IsList l vs.toArray) (e : EachIs R vs ks) (er : EachIs (fun v k => ∃ as, Reads s.heap v (tI k) as) vs ks) (hk : okT ks = true) (hL : ks.length ≤ sizeLine) (hu : A.units + 4 < cLine)
    (h : ∀ out, EachIs R out (upT ks) → Q (.ref (s.heap.objs.size + 1)) { s with heap := sortedAll s.heap vs (List.toArray out) }) : wpAny (model prog w) A (call (.builtin "sorted") [.ref l]) Q E s := by
  by_cases h1 : ks.length ≤ 1
  · refine sorted_of_sort hl (by rw [e.length]; exact hL) (args_sorted1 _) (fun _ => args_list_sort _) fun _ => ?_
    refine sort_few (s := { s with heap := copyHeap s.heap vs }) (copyHeap_at s.heap vs) (by rw [e.length]; exact h1) ⟨rfl, h vs ?_⟩
    rw [upT_one h1]
    exact e
  · refine sorted_data (enc := tI) hl e er (AllAlike.of alike_tI) (okT_two hk h1) hL (fun b _ => by have := depth_tI b; omega) fun out _ eo => h out ?_
    rw [dataLe_tups] at eo
    exact eo
end
def IsK (K : PySem.W.Frag) (G : Hp) (v : Value) (k : List Int) : Prop := ∃ x, RelV x v ∧ Dp K G x (tI k)
theorem isK_all {K : PySem.W.Frag} {G : Hp} : ∀ {ws : List V} {us : List Value} {ks : List (List Int)}, DpAll K G ws (ks.map tI) → Vals ws us → EachIs (IsK K G) us ks
  | [], _, [], _, .nil => .nil
  | w :: ws, _, k :: ks, .cons h t, .cons r q => .cons ⟨w, r, h⟩ (isK_all t q)
  | [], _, _ :: _, h, _ => by cases h
  | _ :: _, _, [], h, _ => by cases h
theorem isK_back {K : PySem.W.Frag} {G : Hp} : ∀ {us : List Value} {ks : List (List Int)}, EachIs (IsK K G) us ks → ∃ ws, Vals ws us ∧ DpAll K G ws (ks.map tI)
  | _, _, .nil => ⟨[], .nil, .nil⟩
  | _, _, .cons h t => by
    obtain ⟨x, r, d⟩ := h
    obtain ⟨ws, r2, d2⟩ := isK_back t
    exact ⟨x :: ws, .cons r r2, .cons d d2⟩
theorem isK_reads {X : Cx} {pins : List (Addr × Obj)} {σ : St} {G H : Hp} {s : Shared} (I : Inv X pins σ H s) (sg : Same G H) {us : List Value} {ks : List (List Int)} (e : EachIs (IsK X.K G) us ks) : EachIs (fun v k => ∃ as, Reads s.heap v (tI k) as) us ks :=
  e.mono fun v k ⟨x, r, d⟩ => Dp.reads I _ x v (dp_same sg d) r
section
variable {X : Cx}
/-- sorted(xs), xs a list of tuples of ints -/
def rSortTL (K : PySem.W.Frag) : List V → Hp → VK → Prop := fun vs H Q => ∃ (G : Hp) (a : Addr) (ws : List V) (ks : List (List Int)), Same G H ∧ vs = [.ref a] ∧ SqL K H a ws ∧ DpAll K G ws (ks.map tI) ∧ okT ks = true ∧
  ∀ ys p, DpAll K G ys ((upT ks).map tI) → H p = none → Q (.ref p) (upd H p (.lst ys))
theorem cr_sortTL (hu : X.A.units + 64 < cLine) : CallR X (.builtin "sorted") (rSortTL X.K) := by
  intro pins s σ H vs us Q I r h
  obtain ⟨G, a, ws, ks, sg, rfl, hs, hd, ok, q⟩ := h
  obtain ⟨its, rv, pl, hz⟩ := I.list hs
  rw [Vals.ref1 r]
  have e := isK_all hd rv
  have hl : ks.length ≤ sizeLine := by
    rw [← e.length, ← rv.length]
    exact hz
  refine sorted_tlist pl.isList e (isK_reads I sg e) ok hl (by omega) fun out eo => ?_
  obtain ⟨ys, r2, d2⟩ := isK_back eo
  obtain ⟨c, hat⟩ := sortedAll_at s.heap its out.toArray
  have hl2 : ys.length ≤ sizeLine := by
    rw [dpAll_len d2, List.length_map, (upT_perm ks).length_eq]
    exact hl
  exact ⟨.ref _, upd H (s.heap.objs.size + 1) (.lst ys), I.laid (t' := s.toks) (fun _ _ => sortedAll_old) (Nat.le_succ _) ⟨hl2, out, c, r2, hat⟩, rfl, q ys _ d2 (I.hok.fresh (Nat.le_succ _))⟩
end
end DL
namespace DL
open PySem PySem.Spec PyProof.Rows L2
theorem enumNew1 {v : Value} {ob : Obj} {P : Heap → Prop} (B : Begins v ob P) :
    Meets (Builtin.«enumerate.__new__» ⟨[.type "enumerate", v], []⟩) fun _ R st => P st.heap ∧
      R (.ok (.ret (.ref (st.heap.push ob).objs.size))) { st with heap := (st.heap.push ob).push { cls := .type "enumerate", data := .fields #[.none, .bool false, .ref st.heap.objs.size, rawInt 0, .none, .none] } } :=
  .of_wp fun pr wo Ar R st z => by
    obtain ⟨he, ge, dr, to, oo⟩ := st
    obtain ⟨z1, z2⟩ := z
    have sb := sub_enumerate
    have it1 : ∀ {A' : Around} {E' : Value → Shared → Prop} {Q' : Value → Shared → Prop}, Q' (.ref he.objs.size) ⟨he.push ob, ge, dr, to, oo⟩ → wpAny (model pr wo) A' (pyIter v) Q' E' ⟨he, ge, dr, to, oo⟩ := fun y => B.iter pr wo _ _ ⟨he, ge, dr, to, oo⟩ _ z1 y
    wp_walk using it1
    refine wpAny_stack_any fun sk => wpAny_pure ?_
    split
    · rename_i cc _ _ _ _ _
      cases (cc == Value.type "enumerate") <;> (wp_walk using it1; exact ⟨_, rfl, z2⟩)
    · wp_walk using it1
      exact ⟨_, rfl, z2⟩
theorem enumCall1 {prog : Program} {w : World} {A : Around} {E : Value → Shared → Prop} {s : Shared} {v : Value} {ob : Obj} {P : Heap → Prop} {Q : Value → Shared → Prop} (B : Begins v ob P) (h1 : P s.heap)
    (h : ∀ g, IsEnum g (s.heap.objs.size + 1) s.heap.objs.size 0 .none → g.get? s.heap.objs.size = some ob → (∀ b u, s.heap.get? b = some u → g.get? b = some u) → Q (.ref (s.heap.objs.size + 1)) { s with heap := g }) :
    wpAny (model prog w) A (call (.type "enumerate") [v]) Q E s := by
  refine callType_new F.called_enumerate (by decide) (F.typeCall_enumerate_1 _) (F.newCall_enumerate_1 _) (fun x => F.args_object_init_2 x _) F.entry_enumerate_new (enumNew1 B) ⟨h1, ?_⟩
  have sz : (s.heap.push ob).objs.size = s.heap.objs.size + 1 := Heap.size_push ..
  have old : ∀ b u, s.heap.get? b = some u → ((s.heap.push ob).push { cls := .type "enumerate", data := .fields #[.none, .bool false, .ref s.heap.objs.size, rawInt 0, .none, .none] }).get? b = some u := fun b u y => Heap.get?_push_of_some _ (Heap.get?_push_of_some _ y)
  have en := Heap.get?_push_size (s.heap.push ob) (o := { cls := .type "enumerate", data := .fields #[.none, .bool false, .ref s.heap.objs.size, rawInt 0, .none, .none] }) rfl
  show _ ∧ _
  rw [sz] at en ⊢
  exact ⟨⟨_, en, rfl⟩, h _ en (Heap.get?_push_of_some _ (Heap.get?_push_size _ B.free)) old⟩
/-- the tuple at a, each item in a new pair -/
def ItE (K : PySem.W.Frag) (a : Addr) : It where
  go := fun i H => ∃ xs x, SqT K H a xs ∧ xs[i]? = some x
  yld := fun i H v H' => ∃ T x, v = .ref T ∧ H T = none ∧ H' = upd H T (.tup [.int (i : Nat), x]) ∧ ∀ xs, SqT K H a xs → xs[i]? = some x
  stop := fun i H => ∃ xs : List V, SqT K H a xs ∧ xs.length = i
theorem turn_enumT {P : Program} {w : World} {K : PySem.W.Frag} {elts : List Expr} {kk : Nat} {tpos : Pos} (a e it : Addr) :
    Turn P w K (.Tuple elts kk tpos) (ItE K a) [e, it] e fun i h => (∃ old, IsEnum h e it ((i : Nat) : Int) old) ∧ h.IsTupleIter it a i ∧ e ≠ it ∧ a ≠ it ∧ a ≠ e where
  mem := List.mem_cons_self
  obj := fun i h ⟨⟨old, z1⟩, ⟨o, z2, z3, z4⟩, _⟩ b hb => by
    rcases List.mem_cons.mp hb with y | y
    · subst y
      exact ⟨_, z1, fun v q => nomatch q⟩
    · rw [List.mem_singleton.mp y]
      exact ⟨o, z2, fun v q => by rw [z4] at q; cases q⟩
  keep := fun i h h' ⟨⟨old, z1⟩, z2, z3⟩ k => ⟨⟨old, k e List.mem_cons_self _ z1⟩, z2.at fun o q => k it (List.mem_cons_of_mem _ List.mem_cons_self) o q, z3⟩
  item := by
    intro X e1 e2 e3 hc i pins s σ H E I hf ⟨⟨old, z1⟩, z2, z3, z4, z5⟩ ⟨xs, x, hq, hx⟩
    subst e1 e2 e3
    obtain ⟨its, rv, tp, hz⟩ := I.tuple hq
    obtain ⟨u, hu, ru⟩ := rv.get hx
    have li : i < its.toArray.size := by
      rw [List.size_toArray]
      exact (List.getElem?_eq_some_iff.mp hu).1
    have le : e < s.heap.objs.size := Heap.lt_size z1
    have lt : it < s.heap.objs.size := by
      obtain ⟨_, q, _⟩ := z2
      exact Heap.lt_size q
    have D := Draws.tuple (prog := X.prog) (w := X.w) (A := X.A.in1) (by exact I.ok.hd hc) it a z4 its.toArray
    refine wpAny_pyNext_enum_itemD D z1 ⟨z2, tp⟩ li z3 (by
      intro m
      rcases List.mem_cons.mp m with y | y
      · exact z3 y
      · exact z5 (List.mem_singleton.mp y).symm) fun u2 g tk hu2 eo st gT gs gk => ?_
    have eu : u2 = u := by
      have y : its.toArray[i]? = some u2 := hu2
      rw [List.getElem?_toArray, hu] at y
      exact (Option.some.inj y).symm
    subst eu
    refine ⟨_, rfl, wpAny_letOwnedTupleGo_enum (s := { s with heap := g, toks := tk + 1 }) eo fun g2 eo2 sb => ?_⟩
    have nT : s.heap.objs.size ≠ e := Nat.ne_of_gt le
    have gT2 := (sb.2 _ nT).trans gT
    have new : ObjOk X.prog X.w (upd H s.heap.objs.size (.tup [.int (i : Nat), x])) g2 s.heap.objs.size (.tup [.int (i : Nat), x]) := ⟨by show 2 ≤ sizeLine; decide, [.int i tk, u2], .cons ⟨_, rfl⟩ (.cons ru .nil), ⟨_, gT2, rfl, _, rfl⟩⟩
    have out : ∀ {b : Addr}, b ∉ [e, it] → b ≠ e ∧ b ≠ it := fun {b} m => ⟨fun y => m (by rw [y]; exact List.mem_cons_self), fun y => m (by rw [y]; exact List.mem_cons_of_mem _ List.mem_cons_self)⟩
    have J := I.turnedNew (t' := tk + 1) (ch := [e, it]) (fun b ob m y => (sb.2 b (out m).1).trans (gk b ob (out m).1 (out m).2 y)) hf (Nat.le_refl _) new
    refine ⟨.ref s.heap.objs.size, _, J, rfl, ⟨_, x, rfl, I.hok.fresh (Nat.le_refl _), rfl, fun ys hy => by rw [I.tuple_inj hy hq]; exact hx⟩, ⟨⟨u2, ?_⟩, st.1.at fun o q => (sb.2 it z3.symm).trans q, z3, z4, z5⟩, fun b m => ?_⟩
    · rw [show (((i + 1 : Nat) : Nat) : Int) = (i : Int) + 1 by omega]
      exact eo2
    · have lb : b < s.heap.objs.size := by
        rcases List.mem_cons.mp m with y | y
        · rw [y]; exact le
        · rw [List.mem_singleton.mp y]; exact lt
      rw [upd_ne (Nat.ne_of_lt lb)]
      exact (hf b m).1
  done := by
    intro X e1 e2 e3 hc i pins s σ H E I hf ⟨⟨old, z1⟩, z2, z3, z4, z5⟩ ⟨xs, hq, hx⟩
    subst e1 e2 e3
    obtain ⟨its, rv, tp, hz⟩ := I.tuple hq
    have le : e < s.heap.objs.size := Heap.lt_size z1
    have D := Draws.tuple (prog := X.prog) (w := X.w) (A := X.A.in1) (by exact I.ok.hd hc) it a z4 its.toArray
    obtain ⟨f0, f1, f2, f3, f4, f5⟩ := hf it (List.mem_cons_of_mem _ List.mem_cons_self)
    have big : its.toArray.size = i := by
      rw [List.size_toArray, ← rv.length]
      exact hx
    rw [← big] at z2
    exact wpAny_pyNext_enum_endD D z1 ⟨z2, tp⟩ fun g eb => ⟨rfl, I.turned (t' := s.toks) (fun b o m y => eb b o m y) f0 f1 f3 f4 f5⟩
  self := fun A i s Q E ⟨⟨_, z⟩, _⟩ h => wpAny_pyIter_enum z h
def iEnumT (K : PySem.W.Frag) (ta : TA) : TI := fun σ H R => ta σ H fun vs H1 => ∃ a xs, vs = [.ref a] ∧ SqT K H1 a xs ∧ R (ItE K a) H1
theorem pi_enumT {X : Cx} {e : Expr} {ta : TA} {p pos tpos : Pos} {elts : List Expr} {kk : Nat} (hg : Gl X "enumerate") (hm : X.mg "enumerate" = none) (ha : PA X [e] ta) (hs : starEach [e] X.env = [(false, eval e X.env)] := by rfl) :
    PI X (.Tuple elts kk tpos) (.Call (.Name "enumerate" p) [e] [] pos) (iEnumT X.K ta) := by
  refine ⟨fun pins s σ H R I h => Call_ (ld_blt I hg hm boot_enumerate (callWith_type1 (thn (ha.run pos pins s σ H _ I h) fun us s1 z => ?_) hs rfl))⟩
  obtain ⟨vs, H1, I1, r1, a, xs, rfl, hq, q⟩ := z
  rw [Vals.ref1 r1]
  obtain ⟨its, rv, tp, hz⟩ := I1.tuple hq
  have la : a < s1.heap.objs.size := by
    obtain ⟨o, ho, _⟩ := tp
    exact Heap.lt_size ho
  refine enumCall1 (begins_tuple a its.toArray) tp fun g z1 z2 z3 => wpAny_pyIter_enum z1 ?_
  have nn : ∀ b ∈ [s1.heap.objs.size + 1, s1.heap.objs.size], s1.heap.objs.size ≤ b := fun b m => by
    rcases List.mem_cons.mp m with y | y
    · omega
    · rw [List.mem_singleton.mp y]
      exact Nat.le_refl _
  exact ⟨_, _, _, _, H1, rfl, I1.kept (t' := s1.toks) z3, turn_enumT a (s1.heap.objs.size + 1) s1.heap.objs.size, ⟨⟨.none, z1⟩, ⟨_, z2, rfl, rfl⟩, Nat.succ_ne_self _, Nat.ne_of_lt la, Nat.ne_of_lt (Nat.lt_succ_of_lt la)⟩, fun b m => I1.fpOk (nn b m) (I1.hok.fresh (nn b m)), q⟩
def enumD (ds : List PyData) : List PyData := (List.range ds.length).zipWith (fun (i : Nat) d => PyData.tuple [.int (i : Int), d]) ds
theorem enumD_at {ds : List PyData} {i : Nat} {d : PyData} (h : (enumD ds)[i]? = some d) : ∃ x, ds[i]? = some x ∧ d = .tuple [.int (i : Int), x] := by
  unfold enumD at h
  rw [List.getElem?_zipWith] at h
  cases z1 : (List.range ds.length)[i]? with
  | none => rw [z1] at h; cases h
  | some j =>
    cases z2 : ds[i]? with
    | none => rw [z1, z2] at h; cases h
    | some x =>
      rw [z1, z2] at h
      obtain ⟨y1, y2⟩ := List.getElem?_eq_some_iff.mp z1
      rw [List.getElem_range] at y2
      subst y2
      cases h
      exact ⟨x, rfl, rfl⟩
theorem enumD_len {ds : List PyData} : (enumD ds).length = ds.length := by
  unfold enumD
  rw [List.length_zipWith, List.length_range, Nat.min_self]
section
variable {K : PySem.W.Frag} {G0 : Hp} {a : Addr} {xs : List V} {ds : List PyData}
theorem walk_enumT (h : SqT K G0 a xs) (q : DpAll K G0 xs ds) : WalkD K G0 (ItE K a) (enumD ds) := by
  intro G H s1 s2
  have hq : SqT K H a xs := seqT (s1.trans s2) h
  refine ⟨fun i d e => ?_, xs, hq, by rw [enumD_len, dpAll_len q]⟩
  obtain ⟨x, e1, rfl⟩ := enumD_at e
  obtain ⟨v, e2, e3⟩ := dpAll_get q e1
  refine ⟨⟨xs, v, hq, e2⟩, fun u H2 ⟨T, y, z1, z2, z3, z4⟩ => .inr ⟨T, [.int (i : Nat), y], _, z1, z2, z3, rfl, ?_⟩⟩
  have z5 := z4 xs hq
  rw [e2] at z5
  cases z5
  exact .cons (.int _) (.cons (dp_same s1 e3) .nil)
theorem walk_enumL (h : SqL K G0 a xs) (q : DpAll K G0 xs ds) : WalkD K G0 (Ite K a) (enumD ds) := by
  intro G H s1 s2
  have hq : SqL K H a xs := (s1.trans s2).seq h
  refine ⟨fun i d e => ?_, xs, hq, by rw [enumD_len, dpAll_len q]; exact Nat.le_refl _⟩
  obtain ⟨x, e1, rfl⟩ := enumD_at e
  obtain ⟨v, e2, e3⟩ := dpAll_get q e1
  refine ⟨⟨xs, v, hq, e2⟩, fun u H2 ⟨T, y, z1, z2, z3, z4⟩ => .inr ⟨T, [.int (i : Nat), y], _, z1, z2, z3, rfl, ?_⟩⟩
  have z5 := z4 xs hq
  rw [e2] at z5
  cases z5
  exact .cons (.int _) (.cons (dp_same s1 e3) .nil)
end
def i_enum (f : Fe) : Fi := fun e => match i_seq f e with
  | some (ds, e1) => some (enumD ds, e1)
  | none => none
theorem id_enum {X : Cx} {a : Expr} {fa : Fe} {pos p tpos : Pos} {elts : List Expr} {kk : Nat} (ha : ED X a fa) (hm : X.mg "enumerate" = none) (hg : Gl X "enumerate" := by rfl) (hs : starEach [a] X.env = [(false, eval a X.env)] := by rfl) :
    ID X (.Tuple elts kk tpos) (.Call (.Name "enumerate" p) [a] [] pos) (i_enum fa) := by
  obtain ⟨t, pa, k⟩ := ha
  refine ⟨_, pi_or (pi_enum hg hm (pa_cons pa pa_nil hs) hs) (pi_enumT hg hm (pa_cons pa pa_nil hs) hs), fun m E G0 G e σ H ds e' Q R q P => ?_⟩
  unfold i_enum at q
  cases h1 : i_seq fa e with
  | none => rw [h1] at q; cases q
  | some z =>
    obtain ⟨ds0, e1⟩ := z
    rw [h1] at q
    cases q
    obtain ⟨r, q1, q2⟩ := i_seq_ok h1
    rcases q2 with q2 | q2
    · refine .inl (k m E G0 G e σ H r _ _ R q1 fun v G1 H1 R1 S1 V1 N1 => ?_)
      obtain ⟨G2, R2, S2, s2, V2⟩ := R1.freeze S1 V1 N1
      rw [q2] at V2
      have V3 : Dp X.K G2 v (.list ds0) := V2
      cases V3 with
      | lst h z => exact ⟨_, _, rfl, R2.gh.seq h, P _ _ _ R2 S2 (walk_enumL h z)⟩
    · refine .inr (k m E G0 G e σ H r _ _ R q1 fun v G1 H1 R1 S1 V1 N1 => ?_)
      obtain ⟨G2, R2, S2, s2, V2⟩ := R1.freeze S1 V1 N1
      rw [q2] at V2
      have V3 : Dp X.K G2 v (.tuple ds0) := V2
      cases V3 with
      | tup h z => exact ⟨_, _, rfl, seqT R2.gh h, P _ _ _ R2 S2 (walk_enumT h z)⟩
end DL
namespace DL
open PySem PySem.Spec PySem.W PyProof.Rows L2
theorem fold_maxI : ∀ (r : List Int) (a b : Int), r.foldl max (max a b) = max a (r.foldl max b)
  | [], _, _ => rfl
  | c :: r, a, b => by
    rw [List.foldl_cons, List.foldl_cons, show max (max a b) c = max a (max b c) by omega]
    exact fold_maxI r a (max b c)
theorem maxI_fold : ∀ (r : List Int) (a : Int), r.foldl max a = maxI (a :: r)
  | [], _ => rfl
  | b :: r, a => by
    rw [List.foldl_cons, fold_maxI, maxI_fold r b]
    rfl
theorem alikeAll_ints (ns : List Int) : AlikeAll (ns.map PyData.int) := by
  refine ⟨fun x hx y hy => ?_, fun x hx => ?_⟩
  · obtain ⟨i, _, rfl⟩ := List.mem_map.mp hx
    obtain ⟨j, _, rfl⟩ := List.mem_map.mp hy
    rfl
  · obtain ⟨i, _, rfl⟩ := List.mem_map.mp hx
    exact fun z => by cases z
section
variable {X : Cx}
def rMaxT (K : PySem.W.Frag) : List V → Hp → VK → Prop := fun vs H Q => ∃ (a : Addr) (n : Int) (ns : List Int), vs = [.ref a] ∧ SqT K H a ((n :: ns).map V.int) ∧ Q (.int (maxI (n :: ns))) H
theorem cr_maxT (hc : X.calm = true) (hu : X.A.units + 64 < cLine) : CallR X (.builtin "max") (rMaxT X.K) := by
  intro pins s σ H vs us Q I r h
  obtain ⟨a, n, ns, rfl, hs, q⟩ := h
  obtain ⟨its, rv, tp, hz⟩ := I.tuple hs
  rw [Vals.ref1 r]
  obtain ⟨as, hr⟩ := Dp.readsAll I _ _ its (dpAll_ints (n :: ns)) rv
  refine max_tuple_data (x := .int n) (xs := ns.map PyData.int) (as := as) (I.ok.hd hc) tp hr (alikeAll_ints (n :: ns)) (by
    have z := depth_ints (n :: ns)
    rw [List.map_cons] at z
    rw [z]
    omega) fun i v g tk bs _ rd hk => ?_
  rw [maxD_ints, maxI_fold] at rd
  cases rd with
  | int _ t => exact ⟨.int _, H, I.kept hk, ⟨t, rfl⟩, q⟩
end
def c_intsT (g : List Int → Option Rs) : List PyData → Option Rs
  | [.tuple ds] => (match unI ds with
    | some ns => g ns
    | none => none)
  | _ => none
theorem intsT_ok {g : List Int → Option Rs} {ds : List PyData} {r : Rs} (q : c_intsT g ds = some r) : ∃ ns, ds = [.tuple (ns.map PyData.int)] ∧ g ns = some r := by
  unfold c_intsT at q
  split at q
  · rename_i es
    split at q
    · rename_i ns h
      rw [unI_ok h]
      exact ⟨ns, rfl, q⟩
    · cases q
  · cases q
def c_maxT : List PyData → Option Rs := c_intsT fun ns => if ns.isEmpty = true then none else some (.im (.int (maxI ns)))
section
variable {K : PySem.W.Frag}
theorem lv_intsT {G H : Hp} {vs : List V} {ns : List Int} (s : Same G H) (l : LvAll K G H vs [.tuple (ns.map PyData.int)]) : ∃ p, vs = [.ref p] ∧ SqT K H p (ns.map V.int) := by
  obtain ⟨v, rfl, lv⟩ := lv1 l
  obtain ⟨p, ws, rfl, s1, k⟩ := lv.tup s
  rw [dp_ints k] at s1
  exact ⟨p, rfl, s1⟩
theorem vc_maxT : VC K (rMaxT K) c_maxT := by
  intro m E G0 G e σ H vs ds rr Q R l q P
  obtain ⟨ns, rfl, q2⟩ := intsT_ok q
  clear q
  obtain ⟨p, rfl, s1⟩ := lv_intsT R.gh l
  cases ns with
  | nil => cases q2
  | cons a r =>
    cases q2
    exact ⟨p, a, r, rfl, s1, P.now R (.int _) True.intro⟩
end
def c_maxA : List PyData → Option Rs := orC c_max c_maxT
theorem vc_maxA {K : PySem.W.Frag} : VC K (fun vs H Q => rMax K vs H Q ∨ rMaxT K vs H Q) c_maxA := VC.or vc_max vc_maxT
theorem cr_maxA {X : Cx} (hc : X.calm = true) (hu : X.A.units + 64 < cLine) : CallR X (.builtin "max") (fun vs H Q => rMax X.K vs H Q ∨ rMaxT X.K vs H Q) := CallR.or (cr_max hc) (cr_maxT hc hu)
def unT : List PyData → Option (List (List Int))
  | [] => some []
  | .tuple d :: ds => (match unI d, unT ds with
    | some k, some ks => some (k :: ks)
    | _, _ => none)
  | _ :: _ => none
theorem unT_ok : ∀ {ds : List PyData} {ks : List (List Int)}, unT ds = some ks → ds = ks.map tI
  | [], ks, h => by
    cases h
    rfl
  | d :: ds, ks, h => by
    unfold unT at h
    split at h
    · rename_i z
      cases z
    · rename_i d0 ds0 z
      cases z
      split at h
      · rename_i k ks0 h1 h2
        cases h
        rw [unI_ok h1, unT_ok h2]
        rfl
      · cases h
    · cases h
def c_sortedT : List PyData → Option Rs
  | [.list ds] => (match unT ds with
    | some ks => if okT ks = true then some (.ac ((upT ks).map tI)) else none
    | none => none)
  | _ => none
theorem vc_sortedT {K : PySem.W.Frag} : VC K (rSortTL K) c_sortedT := by
  intro m E G0 G e σ H vs ds rr Q R l q P
  unfold c_sortedT at q
  split at q
  · rename_i es
    split at q
    · rename_i ks h
      by_cases ok : okT ks = true
      · rw [if_pos ok] at q
        cases q
        rw [unT_ok h] at l
        obtain ⟨v, rfl, lv⟩ := lv1 l
        obtain ⟨p, ws, rfl, s1, k⟩ := lv.list R.gh
        refine ⟨G, p, ws, ks, R.gh, rfl, s1, k, ok, fun ys p2 d hp => ?_⟩
        obtain ⟨R', S', V', N'⟩ := R.newL hp d
        exact P _ _ _ R' S' V' N'
      · rw [if_neg ok] at q
        cases q
    · cases q
  · cases q
def c_sortedA : List PyData → Option Rs := orC c_sortedI c_sortedT
theorem vc_sortedA {K : PySem.W.Frag} : VC K (fun vs H Q => rSortedI K vs H Q ∨ rSortTL K vs H Q) c_sortedA := VC.or vc_sortedI vc_sortedT
theorem cr_sortedA {X : Cx} (hu : X.A.units + 64 < cLine) : CallR X (.builtin "sorted") (fun vs H Q => rSortedI X.K vs H Q ∨ rSortTL X.K vs H Q) := CallR.or cr_sortedI (cr_sortTL hu)
def rgOkB (a b : Int) : Bool := decide (-(2 ^ 62) ≤ a) && (decide (a < 2 ^ 62) && (decide (-(2 ^ 62) ≤ b) && (decide (b < 2 ^ 62) && decide ((b - a).toNat ≤ 2 ^ 24))))
theorem rgOkB_ok {a b : Int} (h : rgOkB a b = true) : RgOk a b := by
  unfold rgOkB at h
  simp only [Bool.and_eq_true, decide_eq_true_eq] at h
  exact h
def rgL (a b : Int) : List PyData := (List.range (b - a).toNat).map fun (j : Nat) => PyData.int (a + (j : Int))
theorem rgV_dp {K : PySem.W.Frag} {G : Hp} (a b : Int) : DpAll K G (rgV a b) (rgL a b) := by
  unfold rgV rgL
  induction (List.range (b - a).toNat) with
  | nil => exact .nil
  | cons i r ih => exact .cons (.int _) ih
abbrev Fg := Ev → Option (Int × Int × Ev)
def g_rg1 (fa : Fe) : Fg := fun e => match fa e with
  | some (.im (.int b), e1) => some (0, b, e1)
  | _ => none
structure RgD (X : Cx) (x : Expr) (f : Fg) : Prop where
  ex : ∃ t, PRg X x t ∧ ∀ (m : Option Addr) (E : Ef) (G0 G : Hp) (e : Ev) (σ : St) (H : Hp) (a b : Int) (e' : Ev) (Q : Int → Int → Hp → Prop),
    Rl X.K m E G0 G e σ H → f e = some (a, b, e') → (∀ G' H', Rl X.K m E G0 G' e' σ H' → Stp σ G H e G' H' e' → Q a b H') → t σ H Q
section
variable {X : Cx} {a b : Expr} {fa fb : Fe} {p pos : Pos}
theorem rgd1 (ha : ED X a fa) (hm : X.mg "range" = none) (hg : Gl X "range" := by rfl) (na : starEach [a] X.env = (false, eval a X.env) :: starEach [] X.env := by rfl) : RgD X (.Call (.Name "range" p) [a] [] pos) (g_rg1 fa) := by
  obtain ⟨t, pa, k⟩ := ha
  refine ⟨_, prg_1 hg hm pa na, fun m E G0 G e σ H i j e' Q R q P => ?_⟩
  unfold g_rg1 at q
  split at q
  · rename_i b e1 h1
    cases q
    refine k m E G0 G e σ H _ _ _ R h1 fun v G1 H1 R1 S1 V1 _ => ?_
    cases V1
    exact ⟨_, rfl, P _ _ R1 S1⟩
  · cases q
def x_lrg (f : Fg) : Fe := fun e => match f e with
  | some (a, b, e1) => if rgOkB a b = true then some (.ac (rgL a b), e1) else none
  | none => none
def x_trg (f : Fg) : Fe := fun e => match f e with
  | some (a, b, e1) => if rgOkB a b = true then some (.im (.tuple (rgL a b)), e1) else none
  | none => none
theorem ed_lrg {f : Fg} (h : RgD X a f) (hc : X.calm = true) (hm : X.mg "list" = none) (hg : Gl X "list" := by rfl) (na : starEach [a] X.env = (false, eval a X.env) :: starEach [] X.env := by rfl) : ED X (.Call (.Name "list" p) [a] [] pos) (x_lrg f) := by
  obtain ⟨t, pr, k⟩ := h
  refine ⟨_, pe_listRg hc hg hm pr na, fun m E G0 G e σ H r e' Q R q P => ?_⟩
  unfold x_lrg at q
  split at q
  · rename_i i j e1 h1
    by_cases z : rgOkB i j = true
    · rw [if_pos z] at q
      cases q
      refine k m E G0 G e σ H i j _ _ R h1 fun G1 H1 R1 S1 => ⟨rgOkB_ok z, fun l hl => ?_⟩
      obtain ⟨R', S', V', N'⟩ := R1.newL hl (rgV_dp (K := X.K) (G := G1) i j)
      exact P _ _ _ R' (S1.trans S') V' (nw_back S1 _ N')
    · rw [if_neg z] at q
      cases q
  · cases q
theorem ed_trg {f : Fg} (h : RgD X a f) (hc : X.calm = true) (hm : X.mg "tuple" = none) (hg : Gl X "tuple" := by rfl) (na : starEach [a] X.env = (false, eval a X.env) :: starEach [] X.env := by rfl) : ED X (.Call (.Name "tuple" p) [a] [] pos) (x_trg f) := by
  obtain ⟨t, pr, k⟩ := h
  refine ⟨_, pe_tupRg hc hg hm pr na, fun m E G0 G e σ H r e' Q R q P => ?_⟩
  unfold x_trg at q
  split at q
  · rename_i i j e1 h1
    by_cases z : rgOkB i j = true
    · rw [if_pos z] at q
      cases q
      refine k m E G0 G e σ H i j _ _ R h1 fun G1 H1 R1 S1 => ⟨rgOkB_ok z, fun l hl => ?_⟩
      obtain ⟨R', S', V'⟩ := R1.newT hl (rgV_dp (K := X.K) (G := G1) i j)
      exact P _ _ _ R' (S1.trans S') V' True.intro
    · rw [if_neg z] at q
      cases q
  · cases q
end
end DL
namespace DL
open PySem PySem.Spec PySem.W PyProof.Rows L2 Calls
end DL
namespace DL
open PySem PySem.Spec PySem.W PyProof.Rows L2 Calls
end DL
namespace DL
open PySem PySem.Spec PySem.W PyProof.Rows L2
/-- fuel for a loop that goes down by the int in a slot -/
def fuI (j : Nat) (e : Ev) : Nat := match e[j]? with
  | some (some (.im (.int i))) => i.toNat + 1
  | _ => 0
/-- a def under its name, every parameter written -/
theorem kfN {P : Program} {w : World} {K : PySem.W.Frag} {mg : Str → Option Value} {base : Heap} {x qual : Str} {params : Arguments} {body : List Stmt} {scope : Scope} {kws : List (Str × V)} {f : Addr} {fd : FuncData} {k : Nat} {sp : Sp} {ps : List Str}
    (F : FunD K x qual params body scope [] kws f fd) (ok : FnOk P w K mg base CX0 k f fd ps sp) (g : mg x = some (.ref f))
    (h : ∀ (kV doc pm : Value) (an : Option Addr) (cdv ct : Value) (us : List Value), us.length = ps.length → bindArgs (PySem.W.fnOf x qual params body scope .none kV doc pm an cdv ct) ⟨us, []⟩ = pure (ps.zip us)) : Kf P w K mg base k x sp [] :=
  ⟨f, fd, ps, [], ok, g, F.kp, F.bindsN h, .nil⟩
/-- .. the defaults behind the first j fill up -/
theorem kfD {P : Program} {w : World} {K : PySem.W.Frag} {mg : Str → Option Value} {base : Heap} {x qual : Str} {params : Arguments} {body : List Stmt} {scope : Scope} {dvs dvs' : List V} {kws : List (Str × V)} {f : Addr} {fd : FuncData} {k : Nat} {sp : Sp} {ps : List Str}
    (F : FunD K x qual params body scope dvs kws f fd) (ok : FnOk P w K mg base CX0 k f fd ps sp) (g : mg x = some (.ref f)) (b : ∃ ds, Vals dvs' ds ∧ Binds K fd ps ds) : Kf P w K mg base k x sp dvs' := by
  obtain ⟨ds, h1, h2⟩ := b
  exact ⟨f, fd, ps, ds, ok, g, F.kp, h2, h1⟩
end DL
namespace DL
open PySem PySem.Spec PySem.W PyProof.Rows L2
def nD (n : Nat) : PyData := .int (n : Int)
section
variable {i j : Int}
theorem e_add : p_add (.int i) (.int j) = some (.im (.int (i + j))) := rfl
theorem e_sub : p_sub (.int i) (.int j) = some (.im (.int (i - j))) := rfl
theorem e_eq : p_eq (.int i) (.int j) = some (.im (.bool (decide (i = j)))) := by
  show some (Rs.im (.bool (i == j))) = _
  rw [Bool.beq_eq_decide_eq]
theorem e_ne : p_ne (.int i) (.int j) = some (.im (.bool (!decide (i = j)))) := by
  show some (Rs.im (.bool (!(i == j)))) = _
  rw [Bool.beq_eq_decide_eq]
theorem e_mod (h : 0 < j) : p_mod (.int i) (.int j) = some (.im (.int (i % j))) := by
  show ((if decide (0 < j) = true then some (PyData.int (i % j)) else none).map Rs.im) = _
  rw [if_pos (decide_eq_true h)]
  rfl
theorem e_divW (h : 0 < j) (h2 : j.natAbs.log2 < 9000) : p_div (.int i) (.int j) = some (.im (.int (i / j))) := by
  show ((if divC i j = true then some (PyData.int (i / j)) else none).map Rs.im) = _
  rw [show divC i j = true from decide_eq_true ⟨h, h2⟩]
  rfl
theorem log_few {j : Int} (h : 0 < j) (h2 : j < 1073741824) : j.natAbs.log2 < 9000 := Nat.lt_trans ((Nat.log2_lt (by omega)).mpr (show j.natAbs < 2 ^ 30 by omega)) (by decide)
theorem e_div (h : 0 < j) (h2 : j < 1073741824) : p_div (.int i) (.int j) = some (.im (.int (i / j))) := e_divW h (log_few h h2)
theorem e_mul (h : (-18446744073709551616 < i ∧ i < 18446744073709551616) ∨ (-18446744073709551616 < j ∧ j < 18446744073709551616)) : p_mul (.int i) (.int j) = some (.im (.int (i * j))) := by
  unfold p_mul orF
  have e : (d_int2 (fun i j => .int (i * j)) mulC (.int i) (.int j)).map Rs.im = some (.im (.int (i * j))) := by
    show ((if mulC i j = true then some (PyData.int (i * j)) else none).map Rs.im) = _
    rw [show mulC i j = true from decide_eq_true h]
    rfl
  simp only [e]
end
theorem okLen_yes {n : Nat} (h : n ≤ 16777216) : okLen n = true := decide_eq_true h
theorem e_cat {a b : List PyData} (h : a.length + b.length ≤ 16777216) : p_add (.list a) (.list b) = some (.ac (a ++ b)) := by
  show orF _ (orF q_cat q_catT) (.list a) (.list b) = _
  have e : q_cat (.list a) (.list b) = some (.ac (a ++ b)) := if_pos (okLen_yes h)
  simp only [orF, d_int2, Option.map_none, e]
theorem e_catT {a b : List PyData} (h : a.length + b.length ≤ 16777216) : p_add (.tuple a) (.tuple b) = some (.im (.tuple (a ++ b))) := by
  show orF _ (orF q_cat q_catT) (.tuple a) (.tuple b) = _
  have e : q_catT (.tuple a) (.tuple b) = some (.im (.tuple (a ++ b))) := if_pos (okLen_yes h)
  simp only [orF, d_int2, Option.map_none, q_cat, e]
theorem e_neB {a b : Bool} : p_ne (.bool a) (.bool b) = some (.im (.bool (!decide (a = b)))) := by
  cases a <;> cases b <;> rfl
theorem atI_nat {α : Type} (ds : List α) (j : Nat) : atI ds (j : Int) = ds[j]? := by
  unfold atI ixN
  rw [if_pos (by omega)]
  by_cases h : j < ds.length
  · rw [if_pos (by omega)]
    simp
  · rw [if_neg (by omega), List.getElem?_eq_none (by omega)]
    rfl
theorem ixN_nat {n j : Nat} (h : j < n) : ixN n (j : Int) = some j := by
  unfold ixN
  rw [if_pos (by omega), if_pos (by omega)]
  simp
theorem flat_ints (ns : List Int) : (ns.map PyData.int).all flatD = true := by
  rw [List.all_eq_true]
  intro d m
  obtain ⟨i, _, rfl⟩ := List.mem_map.mp m
  rfl
theorem inD_ints (x : Int) : ∀ ns : List Int, inD (.int x) (ns.map PyData.int) = decide (x ∈ ns)
  | [] => by simp [inD]
  | n :: ns => by
    have ih := inD_ints x ns
    unfold inD at ih ⊢
    rw [List.map_cons, List.any_cons, ih]
    simp only [PyData.eqv, List.mem_cons]
    by_cases h : n = x
    · subst h
      simp
    · have h2 : ¬ x = n := fun z => h z.symm
      simp [h, h2]
theorem e_in (x : Int) (ns : List Int) : p_in (.int x) (.list (ns.map PyData.int)) = some (.im (.bool (decide (x ∈ ns)))) := by
  show (if (flatD (.int x) && (ns.map PyData.int).all flatD) = true then some (Rs.im (.bool (inD (.int x) (ns.map PyData.int)))) else none) = _
  rw [flat_ints, inD_ints]
  rfl
theorem e_notin (x : Int) (ns : List Int) : p_notin (.int x) (.list (ns.map PyData.int)) = some (.im (.bool (!decide (x ∈ ns)))) := by
  show (if (flatD (.int x) && (ns.map PyData.int).all flatD) = true then some (Rs.im (.bool (!inD (.int x) (ns.map PyData.int)))) else none) = _
  rw [flat_ints, inD_ints]
  rfl
def iN (l : List Nat) : List Int := l.map fun (n : Nat) => (n : Int)
theorem mem_iN {x : Nat} {l : List Nat} : (x : Int) ∈ iN l ↔ x ∈ l := by
  unfold iN
  rw [List.mem_map]
  constructor
  · rintro ⟨y, m, e⟩
    have : y = x := by omega
    rw [← this]
    exact m
  · intro m
    exact ⟨x, m, rfl⟩
theorem unI_ints : ∀ (ns : List Int), unI (ns.map PyData.int) = some ns
  | [] => rfl
  | n :: ns => by
    show (unI (ns.map PyData.int)).map (n :: ·) = _
    rw [unI_ints ns]
    rfl
theorem rest_wipe (e : Ev) (vs : List Nat) : restE e (wipeE e vs) vs = e := by
  refine List.ext_getElem? fun j => ?_
  by_cases h : j ∈ vs
  · rw [restE_in (wipeE_len vs) h]
  · rw [restE_out h, wipeE_out h]
end DL
namespace DL
open PySem PySem.Spec PySem.W PyProof.Rows L2
theorem r_x_var (i : Nat) (e : Ev) : x_var i e = (match e[i]? with
  | some (some (.im d)) => some (.im d, e)
  | some (some (.ac _)) => some (.br i, e)
  | _ => none) := of_eq_true (eq_self _)
theorem r_two (fa fb : Fe) (e : Ev) : two fa fb e = (match fa e with
  | some (ra, e1) => (match fb e1 with
    | some (rb, e2) => some (frzR ra, frzR rb, e2)
    | none => none)
  | none => none) := of_eq_true (eq_self _)
theorem r_x_bin (φ : PyData → PyData → Option Rs) (fa fb : Fe) (e : Ev) : x_bin φ fa fb e = (match two fa fb e with
  | some p => (match look2 p with
    | some (a, b, e2) => (match φ a b with
      | some r => some (r, e2)
      | none => none)
    | none => none)
  | none => none) := of_eq_true (eq_self _)
theorem r_t_of (f : Fe) (e : Ev) : t_of f e = (match f e with
  | some (.im (.bool b), e1) => some (b, e1)
  | _ => none) := of_eq_true (eq_self _)
theorem r_t_not (f : Ft) (e : Ev) : t_not f e = (match f e with
  | some (b, e1) => some (!b, e1)
  | none => none) := of_eq_true (eq_self _)
theorem r_t_and (f g : Ft) (e : Ev) : t_and f g e = (match f e with
  | some (true, e1) => g e1
  | some (false, e1) => some (false, e1)
  | none => none) := of_eq_true (eq_self _)
theorem r_t_or (f g : Ft) (e : Ev) : t_or f g e = (match f e with
  | some (true, e1) => some (true, e1)
  | some (false, e1) => g e1
  | none => none) := of_eq_true (eq_self _)
theorem r_x_and (f g : Fe) (e : Ev) : x_and f g e = (match f e with
  | some (.im (.bool true), e1) => g e1
  | some (.im (.bool false), e1) => some (.im (.bool false), e1)
  | _ => none) := of_eq_true (eq_self _)
theorem r_x_or (f g : Fe) (e : Ev) : x_or f g e = (match f e with
  | some (.im (.bool true), e1) => some (.im (.bool true), e1)
  | some (.im (.bool false), e1) => g e1
  | _ => none) := of_eq_true (eq_self _)
theorem r_x_not (f : Fe) (e : Ev) : x_not f e = (match f e with
  | some (.im (.bool b), e1) => some (.im (.bool !b), e1)
  | _ => none) := of_eq_true (eq_self _)
theorem r_x_chain (φ ψ : PyData → PyData → Option Rs) (fa fb fc : Fe) (e : Ev) : x_chain φ ψ fa fb fc e = (match two fa fb e with
  | some p => (match look2 p with
    | some (a, b, e2) => (match φ a b with
      | some (.im (.bool true)) => (match fc e2 with
        | some (rc, e3) => (match lookR e3 p.2.1, lookR e3 (frzR rc) with
          | some b, some c => (match ψ b c with
            | some r => some (r, e3)
            | none => none)
          | _, _ => none)
        | none => none)
      | some (.im (.bool false)) => some (.im (.bool false), e2)
      | _ => none)
    | none => none)
  | none => none) := of_eq_true (eq_self _)
theorem r_a_nil (e : Ev) : a_nil  e = (some ([], e)) := of_eq_true (eq_self _)
theorem r_a_cons (fa : Fe) (fr : Fa) (e : Ev) : a_cons fa fr e = (match fa e with
  | some (r, e1) => (match fr e1 with
    | some (rs, e2) => some (frzR r :: rs, e2)
    | none => none)
  | none => none) := of_eq_true (eq_self _)
theorem r_argsD (fa : Fa) (e : Ev) : argsD fa e = (match fa e with
  | some (rs, e1) => (match lookAll e1 rs with
    | some ds => some (ds, e1)
    | none => none)
  | none => none) := of_eq_true (eq_self _)
theorem r_argsI (fa : Fa) (e : Ev) : argsI fa e = (match fa e with
  | some (rs, e1) => (match imAll rs with
    | some ds => some (ds, e1)
    | none => none)
  | none => none) := of_eq_true (eq_self _)
theorem r_x_tup (fa : Fa) (e : Ev) : x_tup fa e = (match argsI fa e with
  | some (ds, e1) => if okLen ds.length = true then some (.im (.tuple ds), e1) else none
  | none => none) := of_eq_true (eq_self _)
theorem r_x_lst (fa : Fa) (e : Ev) : x_lst fa e = (match argsI fa e with
  | some (ds, e1) => if okLen ds.length = true then some (.ac ds, e1) else none
  | none => none) := of_eq_true (eq_self _)
theorem r_x_rep (fa : Fa) (fb : Fe) (e : Ev) : x_rep fa fb e = (match argsI fa e with
  | some (ds, e1) => (match fb e1 with
    | some (.im (.int k), e2) => if (okLen ds.length && (decide (-9223372036854775808 ≤ k ∧ k < 9223372036854775808) && okLen (ds.length * k.toNat))) = true then some (.ac (List.replicate k.toNat ds).flatten, e2) else none
    | _ => none)
  | none => none) := of_eq_true (eq_self _)
theorem r_o_at (f : Fe) (e : Ev) : o_at f e = (match f e with
  | some (.im (.int i), e1) => some (some i, e1)
  | _ => none) := of_eq_true (eq_self _)
theorem r_x_sl (fa : Fe) (fl fh : Fo) (e : Ev) : x_sl fa fl fh e = (match fa e with
  | some (r, e1) => (match fl e1 with
    | some (lo, e2) => (match fh e2 with
      | some (hi, e3) => (match lookR e3 (frzR r) with
        | some d => (match sliced lo hi d with
          | some r2 => some (r2, e3)
          | none => none)
        | none => none)
      | none => none)
    | none => none)
  | none => none) := of_eq_true (eq_self _)
theorem r_x_neg (fa : Fe) (e : Ev) : x_neg fa e = (match fa e with
  | some (.im (.int i), e1) => some (.im (.int (-i)), e1)
  | _ => none) := of_eq_true (eq_self _)
theorem r_x_cb (φ : List PyData → Option Rs) (fa : Fa) (e : Ev) : x_cb φ fa e = (match argsD fa e with
  | some (ds, e1) => (match φ ds with
    | some r => some (r, e1)
    | none => none)
  | none => none) := of_eq_true (eq_self _)
theorem r_x_isi (T : Ty) (f : Fe) (e : Ev) : x_isi T f e = (match f e with
  | some (r, e1) => (match lookR e1 (frzR r) with
    | some d => (match isD T d with
      | some b => some (.im (.bool b), e1)
      | none => none)
    | none => none)
  | none => none) := of_eq_true (eq_self _)
theorem r_i_seq (f : Fe) (e : Ev) : i_seq f e = (match f e with
  | some (r, e1) => (match frzR r with
    | .im (.list ds) => some (ds, e1)
    | .im (.tuple ds) => some (ds, e1)
    | _ => none)
  | none => none) := of_eq_true (eq_self _)
theorem r_i_rev (f : Fe) (e : Ev) : i_rev f e = (match i_seq f e with
  | some (ds, e1) => some (ds.reverse, e1)
  | none => none) := of_eq_true (eq_self _)
theorem r_i_rng1 (fa : Fe) (e : Ev) : i_rng1 fa e = (match fa e with
  | some (.im (.int j), e1) => if rgC j = true then some (rngD 0 j.toNat 1, e1) else none
  | _ => none) := of_eq_true (eq_self _)
theorem r_i_rng2 (fa fb : Fe) (e : Ev) : i_rng2 fa fb e = (match fa e with
  | some (.im (.int i), e1) => (match fb e1 with
    | some (.im (.int j), e2) => if (rgC i && rgC j) = true then some (rngD i (j - i).toNat 1, e2) else none
    | _ => none)
  | _ => none) := of_eq_true (eq_self _)
theorem r_s_seq (f g : Fs) (e : Ev) : s_seq f g e = (match f e with
  | some (.nx e1) => g e1
  | some x => some x
  | none => none) := of_eq_true (eq_self _)
theorem r_s_drop (f : Fe) (e : Ev) : s_drop f e = (match f e with
  | some (_, e1) => some (.nx e1)
  | none => none) := of_eq_true (eq_self _)
theorem r_s_ret (f : Fe) (e : Ev) : s_ret f e = (match f e with
  | some (r, e1) => some (.rt r e1)
  | none => none) := of_eq_true (eq_self _)
theorem r_s_if (c : Ft) (f g : Fs) (e : Ev) : s_if c f g e = (match c e with
  | some (true, e1) => f e1
  | some (false, e1) => g e1
  | none => none) := of_eq_true (eq_self _)
theorem r_s_set (i : Nat) (f : Fe) (e : Ev) : s_set i f e = (match f e with
  | some (r, e1) => if okS [i] e1 = true then (match putA i e1 r with
    | some e2 => some (.nx e2)
    | none => none) else none
  | none => none) := of_eq_true (eq_self _)
theorem r_s_for (fi : Fi) (γ : PyData → Ev → Option Ev) (S : List Nat) (fb : Fs) (e : Ev) : s_for fi γ S fb e = (match fi e with
  | some (ds, e1) => forGo γ S fb ds e1
  | none => none) := of_eq_true (eq_self _)
theorem r_x_app (i : Nat) (fa : Fe) (e : Ev) : x_app i fa e = (if isAc e[i]? = true then (match fa e with
  | some (r, e1) => (match imR (frzR r), e1[i]? with
    | some d, some (some (.ac ds)) => if okLen (ds.length + 1) = true then some (.im .none, e1.set i (some (.ac (ds ++ [d])))) else none
    | _, _ => none)
  | none => none) else none) := of_eq_true (eq_self _)
theorem r_s_put (i : Nat) (fv fk : Fe) (e : Ev) : s_put i fv fk e = (match fv e with
  | some (r, e1) => if isAc e1[i]? = true then (match imR (frzR r), fk e1 with
    | some d, some (.im (.int k), e2) => (match e2[i]? with
      | some (some (.ac ds)) => (match ixN ds.length k with
        | some j => some (.nx (e2.set i (some (.ac (ds.set j d)))))
        | none => none)
      | _ => none)
    | _, _ => none) else none
  | none => none) := of_eq_true (eq_self _)
theorem r_x_call (φ : List PyData → Option Rs) (dds : List PyData) (fa : Fa) (e : Ev) : x_call φ dds fa e = (match argsI fa e with
  | some (ds, e1) => (match φ (ds ++ dds) with
    | some (.im d) => some (.im d, e1)
    | some (.ac cs) => some (.ac cs, e1)
    | _ => none)
  | none => none) := of_eq_true (eq_self _)
theorem r_i_enum (f : Fe) (e : Ev) : i_enum f e = (match i_seq f e with
  | some (ds, e1) => some (enumD ds, e1)
  | none => none) := of_eq_true (eq_self _)
theorem r_g_rg1 (fa : Fe) (e : Ev) : g_rg1 fa e = (match fa e with
  | some (.im (.int b), e1) => some (0, b, e1)
  | _ => none) := of_eq_true (eq_self _)
theorem r_x_lrg (f : Fg) (e : Ev) : x_lrg f e = (match f e with
  | some (a, b, e1) => if rgOkB a b = true then some (.ac (rgL a b), e1) else none
  | none => none) := of_eq_true (eq_self _)
theorem r_x_trg (f : Fg) (e : Ev) : x_trg f e = (match f e with
  | some (a, b, e1) => if rgOkB a b = true then some (.im (.tuple (rgL a b)), e1) else none
  | none => none) := of_eq_true (eq_self _)
theorem r_s_setF (i : Nat) (f : Fe) (e : Ev) : s_setF i f e = (match f e with
  | some (r, e1) => if okS [i] e1 = true then (match putA i e1 (frzR r) with
    | some e2 => some (.nx e2)
    | none => none) else none
  | none => none) := by
  unfold s_setF s_set
  cases h : f e with
  | none => simp only [h]
  | some z => simp only [h] <;> rfl
end DL
namespace DL
open PySem PySem.Spec PySem.W PyProof.Rows L2
section
variable {f g : Fs} {e e1 : Ev} {r : Rs} {o : Option Fl} {x : Fe} {ds : List PyData} {fi : Fi} {γ : PyData → Ev → Option Ev} {S : List Nat} {fb : Fs} {c : Ft} {b : Bool} {n nl : Nat} {r' : Rs}
theorem sq (h : f e = some (.nx e1)) (k : g e1 = o) : s_seq f g e = o := by
  rw [r_s_seq, h]
  exact k
theorem ifT (h : c e = some (true, e1)) (k : f e1 = o) : s_if c f g e = o := by
  rw [r_s_if, h]
  exact k
theorem ifF (h : c e = some (false, e1)) (k : g e1 = o) : s_if c f g e = o := by
  rw [r_s_if, h]
  exact k
theorem sf (h : fi e = some (ds, e1)) (k : forGo γ S fb ds e1 = o) : s_for fi γ S fb e = o := by
  rw [r_s_for, h]
  exact k
theorem ret (h : x e = some (r, e1)) : s_ret x e = some (.rt r e1) := by
  rw [r_s_ret, h]
theorem setF {i : Nat} {d : PyData} (h : x e = some (r, e1)) (ok : okS [i] e1 = true) (hr : frzR r = .im d) : s_setF i x e = some (.nx (e1.set i (some (.im d)))) := by
  rw [r_s_setF, h]
  simp only [ok, hr, putA]
  rfl
theorem setX {i : Nat} {e2 : Ev} (h : x e = some (r, e1)) (ok : okS [i] e1 = true) (hr : putA i e1 r = some e2) : s_set i x e = some (.nx e2) := by
  rw [r_s_set, h]
  simp only [ok, hr]
  rfl
theorem drop (h : x e = some (r, e1)) : s_drop x e = some (.nx e1) := by
  rw [r_s_drop, h]
theorem iseqA (h : x e = some (.ac ds, e1)) : i_seq x e = some (ds, e1) := by
  simp [r_i_seq, h, frzR]
theorem iseqL (h : x e = some (.im (.list ds), e1)) : i_seq x e = some (ds, e1) := by
  simp [r_i_seq, h, frzR]
theorem iseqT (h : x e = some (.im (.tuple ds), e1)) : i_seq x e = some (ds, e1) := by
  simp [r_i_seq, h, frzR]
theorem bang (h : x e = some (.im (.bool b), e1)) : t_of x e = some (b, e1) := by
  rw [r_t_of, h]
end
theorem callI {φ : List PyData → Option Rs} {dds ds ds' : List PyData} {fa : Fa} {e e1 : Ev} {d : PyData} (ha : argsI fa e = some (ds, e1)) (hd : ds ++ dds = ds') (h : φ ds' = some (.im d)) : x_call φ dds fa e = some (.im d, e1) := by
  rw [r_x_call, ha]
  simp only [hd, h]
theorem callA {φ : List PyData → Option Rs} {dds ds ds' cs : List PyData} {fa : Fa} {e e1 : Ev} (ha : argsI fa e = some (ds, e1)) (hd : ds ++ dds = ds') (h : φ ds' = some (.ac cs)) : x_call φ dds fa e = some (.ac cs, e1) := by
  rw [r_x_call, ha]
  simp only [hd, h]
theorem a0 {e : Ev} : argsI a_nil e = some ([], e) := rfl
theorem aI {f : Fe} {fa : Fa} {e e1 e2 : Ev} {d : PyData} {ds : List PyData} (h : f e = some (.im d, e1)) (k : argsI fa e1 = some (ds, e2)) : argsI (a_cons f fa) e = some (d :: ds, e2) := by
  rw [r_argsI] at k ⊢
  rw [r_a_cons, h]
  cases z : fa e1 with
  | none => rw [z] at k; cases k
  | some p =>
    obtain ⟨rs, e3⟩ := p
    rw [z] at k
    cases y : imAll rs with
    | none => simp only [y] at k; cases k
    | some es =>
      simp only [y, Option.some.injEq, Prod.mk.injEq] at k
      obtain ⟨rfl, rfl⟩ := k
      simp only [z, imAll, frzR, imR, y]
theorem aA {f : Fe} {fa : Fa} {e e1 e2 : Ev} {cs : List PyData} {ds : List PyData} (h : f e = some (.ac cs, e1)) (k : argsI fa e1 = some (ds, e2)) : argsI (a_cons f fa) e = some (.list cs :: ds, e2) := by
  rw [r_argsI] at k ⊢
  rw [r_a_cons, h]
  cases z : fa e1 with
  | none => rw [z] at k; cases k
  | some p =>
    obtain ⟨rs, e3⟩ := p
    rw [z] at k
    cases y : imAll rs with
    | none => simp only [y] at k; cases k
    | some es =>
      simp only [y, Option.some.injEq, Prod.mk.injEq] at k
      obtain ⟨rfl, rfl⟩ := k
      simp only [z, imAll, frzR, imR, y]
theorem vI {i : Nat} {e : Ev} {d : PyData} (h : e[i]? = some (some (.im d))) : x_var i e = some (.im d, e) := by
  rw [r_x_var, h]
theorem cI {d : PyData} {e : Ev} : x_c d e = some (.im d, e) := rfl
theorem binI {φ : PyData → PyData → Option Rs} {f g : Fe} {e e1 e2 : Ev} {a b : PyData} {r : Rs} (h1 : f e = some (.im a, e1)) (h2 : g e1 = some (.im b, e2)) (h : φ a b = some r) : x_bin φ f g e = some (r, e2) := by
  rw [r_x_bin, r_two, h1]
  simp only [h2, look2, lookR, frzR, h]
theorem andT {f g : Fe} {e e1 : Ev} {o : Option (Rs × Ev)} (h : f e = some (.im (.bool true), e1)) (k : g e1 = o) : x_and f g e = o := by
  rw [r_x_and, h]
  exact k
theorem torT {f g : Ft} {e e1 : Ev} (h : f e = some (true, e1)) : t_or f g e = some (true, e1) := by
  rw [r_t_or, h]
theorem torF {f g : Ft} {e e1 : Ev} {o : Option (Bool × Ev)} (h : f e = some (false, e1)) (k : g e1 = o) : t_or f g e = o := by
  rw [r_t_or, h]
  exact k
theorem tnot {f : Ft} {e e1 : Ev} {b : Bool} (h : f e = some (b, e1)) : t_not f e = some (!b, e1) := by
  rw [r_t_not, h]
theorem rngD0 (m : Nat) : rngD 0 m 1 = (List.range m).map nD := by
  unfold rngD
  refine List.map_congr_left fun k _ => ?_
  unfold nD
  congr 1
  omega
theorem i_rng1_at {fa : Fe} {e e1 : Ev} {m : Nat} (h1 : fa e = some (.im (.int (m : Int)), e1)) (hm : m ≤ 1000000) : i_rng1 fa e = some ((List.range m).map nD, e1) := by
  rw [r_i_rng1, h1]
  have c : rgC (m : Int) = true := decide_eq_true (by omega)
  simp only [c, if_true]
  rw [show (m : Int).toNat = m by omega, rngD0]
end DL
namespace DL
open PySem PySem.Spec PyProof.Rows L2
/-- the values in the order of the parameters -/
def perm {α : Type} (π : List Nat) (xs : List α) : List α := π.filterMap fun i => xs[i]?
theorem vals_get : ∀ {vs : List V} {us : List Value} (i : Nat), Vals vs us → (∃ v u, vs[i]? = some v ∧ us[i]? = some u ∧ RelV v u) ∨ (vs[i]? = none ∧ us[i]? = none)
  | _, _, _, .nil => .inr ⟨rfl, rfl⟩
  | _, _, 0, .cons h _ => .inl ⟨_, _, rfl, rfl, h⟩
  | _, _, i + 1, .cons _ t => by simpa using vals_get i t
theorem vals_perm {vs : List V} {us : List Value} (h : Vals vs us) : ∀ π : List Nat, Vals (perm π vs) (perm π us)
  | [] => .nil
  | i :: π => by
    unfold perm
    rcases vals_get i h with ⟨v, u, h1, h2, h3⟩ | ⟨h1, h2⟩
    · rw [List.filterMap_cons_some h1, List.filterMap_cons_some h2]
      exact .cons h3 (vals_perm h π)
    · rw [List.filterMap_cons_none h1, List.filterMap_cons_none h2]
      exact vals_perm h π
theorem vals_app : ∀ {vs zs : List V} {us ws : List Value}, Vals vs us → Vals zs ws → Vals (vs ++ zs) (us ++ ws)
  | _, _, _, _, .nil, q => q
  | _, _, _, _, .cons h t, q => .cons h (vals_app t q)
theorem dpAll_perm {K : PySem.W.Frag} {G : Hp} {vs : List V} {ds : List PyData} (h : DpAll K G vs ds) : ∀ π : List Nat, DpAll K G (perm π vs) (perm π ds)
  | [] => .nil
  | i :: π => by
    unfold perm
    cases h1 : ds[i]? with
    | some d =>
      obtain ⟨v, h2, h3⟩ := dpAll_get h h1
      rw [List.filterMap_cons_some h1, List.filterMap_cons_some h2]
      exact .cons h3 (dpAll_perm h π)
    | none =>
      have h2 : vs[i]? = none := by
        rw [List.getElem?_eq_none_iff] at h1 ⊢
        rw [dpAll_len h]
        exact h1
      rw [List.filterMap_cons_none h1, List.filterMap_cons_none h2]
      exact dpAll_perm h π
/-- a def that is called with n values by place and the keywords ks -/
structure KfK (P : Program) (w : World) (K : PySem.W.Frag) (mg : Str → Option Value) (base : Heap) (k : Nat) (x : Str) (sp : Sp) (n : Nat) (ks : List Str) (π : List Nat) : Prop where
  ex : ∃ (f : Addr) (fd : FuncData) (ps : List Str), FnOk P w K mg base CX0 k f fd ps sp ∧ mg x = some (.ref f) ∧ PySem.W.keepIn K (.ref f) = true ∧ KBn K fd ps n ks (fun us ws => perm π (us ++ ws)) (fun vs zs => perm π (vs ++ zs))
theorem kbn_of {K : PySem.W.Frag} {x qual : Str} {params : Arguments} {body : List Stmt} {scope : Scope} {kws : List (Str × V)} {f : Addr} {fd : FuncData} {ps : List Str} (F : FunD K x qual params body scope [] kws f fd) (n : Nat) (ks : List Str) (π : List Nat)
    (h : ∀ (kV doc pm : Value) (an : Option Addr) (cdv ct : Value) (us ws : List Value), us.length = n → ws.length = ks.length → bindArgs (PySem.W.fnOf x qual params body scope .none kV doc pm an cdv ct) ⟨us, ks.zip ws⟩ = pure (ps.zip (perm π (us ++ ws)))) :
    KBn K fd ps n ks (fun us ws => perm π (us ++ ws)) (fun vs zs => perm π (vs ++ zs)) := by
  obtain ⟨_, _, _, kv, dc, md, an, cd, cl, _, same, _, _, noDefaults, _⟩ := F.ex
  subst same
  cases noDefaults with
  | inr some_ => exact absurd rfl some_.1
  | inl none_ =>
    obtain ⟨_, rfl⟩ := none_
    exact ⟨fun _ us ws _ n1 n2 => .of_eq (h kv dc md an cd cl us ws n1 n2), fun r1 r2 => vals_perm (vals_app r1 r2) π⟩
structure KD (X : Cx) (kws : List Keyword) (f : Fa) : Prop where
  ex : ∃ t : TA, PK X kws t ∧ ∀ (m : Option Addr) (E : Ef) (G0 G : Hp) (e : Ev) (σ : St) (H : Hp) (rs : List Rs) (e' : Ev) (Q : List V → Hp → Prop),
    Rl X.K m E G0 G e σ H → f e = some (rs, e') → (∀ vs G' H', Rl X.K m E G0 G' e' σ H' → Stp σ G H e G' H' e' → VrAll X.K E G' H' σ e' vs rs → Q vs H') → t σ H Q
section
variable {X : Cx} {a : Expr} {kws : List Keyword} {fa : Fe} {fr : Fa} {nm : Option Str} {kpos : Pos}
theorem kd_nil : KD X [] a_nil := ⟨_, pk_nil, fun m E G0 G e σ H rs e' Q R q P => by
  cases q
  exact P [] G H R Stp.refl True.intro⟩
theorem kd_cons (ha : ED X a fa) (hr : KD X kws fr) : KD X (⟨nm, a, kpos⟩ :: kws) (a_cons fa fr) := by
  obtain ⟨t, p, k⟩ := ha
  obtain ⟨t2, p2, k2⟩ := hr
  refine ⟨_, pk_cons p p2, fun m E G0 G e σ H rs e' Q R q P => ?_⟩
  unfold a_cons at q
  cases h1 : fa e with
  | none => simp only [h1] at q; cases q
  | some z =>
    obtain ⟨r, e1⟩ := z
    simp only [h1] at q
    cases h2 : fr e1 with
    | none => simp only [h2] at q; cases q
    | some z2 =>
      obtain ⟨rs2, e2⟩ := z2
      simp only [h2, Option.some.injEq, Prod.mk.injEq] at q
      obtain ⟨rfl, rfl⟩ := q
      refine k m E G0 G e σ H r e1 _ R h1 fun v G1 H1 R1 S1 V1 N1 => ?_
      obtain ⟨G1', R1', S1', s1, V1'⟩ := R1.freeze S1 V1 N1
      refine k2 m E G0 G1' e1 σ H1 rs2 e2 _ R1' h2 fun vs G2 H2 R2 S2 V2 => ?_
      exact P (v :: vs) G2 H2 R2 (S1'.trans S2) ⟨V1'.stp S2, V2⟩
end
def x_callK (φ : List PyData → Option Rs) (π : List Nat) (fa fk : Fa) : Fe := fun e => match argsI fa e with
  | some (ds, e1) => (match argsI fk e1 with
    | some (zs, e2) => (match φ (perm π (ds ++ zs)) with
      | some (.im d) => some (.im d, e2)
      | some (.ac cs) => some (.ac cs, e2)
      | _ => none)
    | none => none)
  | none => none
section
variable {X : Cx} {a : Expr} {es : List Expr} {kws : List Keyword} {fa fk : Fa} {p pos : Pos} {x : Str} {j k n m : Nat} {ks : List Str} {π : List Nat}
theorem vrAll_len {K : PySem.W.Frag} {E : Ef} {G H : Hp} {σ : St} {e : Ev} : ∀ {vs : List V} {rs : List Rs}, VrAll K E G H σ e vs rs → vs.length = rs.length
  | [], [], _ => rfl
  | _ :: _, _ :: _, h => congrArg (· + 1) (vrAll_len h.2)
  | [], _ :: _, h => h.elim
  | _ :: _, [], h => h.elim
theorem callK_ok {φ : List PyData → Option Rs} {t tk : TA} (hn : ∀ ds, (φ ds).isSome = true → ds.length = n)
    (kk : ∀ (m : Option Addr) (E : Ef) (G0 G : Hp) (e : Ev) (σ : St) (H : Hp) (rs : List Rs) (e' : Ev) (Q : List V → Hp → Prop),
    Rl X.K m E G0 G e σ H → fa e = some (rs, e') → (∀ vs G' H', Rl X.K m E G0 G' e' σ H' → Stp σ G H e G' H' e' → VrAll X.K E G' H' σ e' vs rs → Q vs H') → t σ H Q)
    (kz : ∀ (m : Option Addr) (E : Ef) (G0 G : Hp) (e : Ev) (σ : St) (H : Hp) (rs : List Rs) (e' : Ev) (Q : List V → Hp → Prop),
    Rl X.K m E G0 G e σ H → fk e = some (rs, e') → (∀ vs G' H', Rl X.K m E G0 G' e' σ H' → Stp σ G H e G' H' e' → VrAll X.K E G' H' σ e' vs rs → Q vs H') → tk σ H Q)
    (l1 : ∀ {e e' : Ev} {rs : List Rs}, fa e = some (rs, e') → rs.length = j) (l2 : ∀ {e e' : Ev} {rs : List Rs}, fk e = some (rs, e') → rs.length = k)
    (m : Option Addr) (E : Ef) (G0 G : Hp) (e : Ev) (σ : St) (H : Hp) (rr : Rs) (e' : Ev) (Q : VK) (R : Rl X.K m E G0 G e σ H) (q : x_callK φ π fa fk e = some (rr, e')) (P : Po X.K m E G0 σ G H e rr e' Q) :
    tCallN j k (spD X.K n φ) (fun vs zs => perm π (vs ++ zs)) E0 t tk σ H Q := by
  unfold x_callK at q
  cases h1 : argsI fa e with
  | none => simp only [h1] at q; cases q
  | some z =>
    obtain ⟨ds, e1⟩ := z
    simp only [h1] at q
    obtain ⟨rs, q1, q2⟩ := argsI_ok h1
    cases h3 : argsI fk e1 with
    | none => simp only [h3] at q; cases q
    | some z2 =>
      obtain ⟨zs, e2⟩ := z2
      simp only [h3] at q
      obtain ⟨rs2, q3, q4⟩ := argsI_ok h3
      have main : ∀ r, φ (perm π (ds ++ zs)) = some r → r = rr ∧ e2 = e' → tCallN j k (spD X.K n φ) (fun vs zs => perm π (vs ++ zs)) E0 t tk σ H Q := fun r h2 ⟨z1, z2⟩ => by
        subst z1 z2
        refine kk m E G0 G e σ H rs e1 _ R q1 fun vs G1 H1 R1 S1 V1 => ?_
        refine kz m E G0 G1 e1 σ H1 rs2 e2 _ R1 q3 fun ws G2 H2 R2 S2 V2 => ?_
        have D1 := vr_imAll V1 q2
        have D2 := vr_imAll V2 q4
        have D3 := dpAll_perm (dpAll_app (dpAll_same S2.gg D1) D2) π
        refine ⟨(vrAll_len V1).trans (l1 q1), (vrAll_len V2).trans (l2 q3), G2, perm π (ds ++ zs), r, R2.gh, D3, ?_, h2, fun v G' H' s1 s2 s3 nw vr => ?_⟩
        · rw [dpAll_len D3]
          exact hn _ (by rw [h2]; rfl)
        · obtain ⟨R3, S3⟩ := R2.called s1 s2 s3 nw
          obtain ⟨V3, N3⟩ := R2.vrf vr
          have S12 := S1.trans S2
          exact P v G' H' R3 (S12.trans S3) V3 (nw_back S12 v N3)
      cases h2 : φ (perm π (ds ++ zs)) with
      | none => simp only [h2] at q; cases q
      | some r =>
        cases r with
        | im d =>
          simp only [h2, Option.some.injEq, Prod.mk.injEq] at q
          exact main _ h2 q
        | ac d =>
          simp only [h2, Option.some.injEq, Prod.mk.injEq] at q
          exact main _ h2 q
        | br d => simp only [h2] at q; cases q
theorem pe_callN0 {CX : CXT} {f : Addr} {fd : FuncData} {ps : List Str} {sp : Sp} {E : XK} {tk : TA} {g : List Value → List Value → List Value} {gV : List V → List V → List V} (F : FnOk X.prog X.w X.K X.mg X.base CX k f fd ps sp) (hr : Room k X.A) (hg : Gl X x) (hm : X.mg x = some (.ref f))
    (hk : PySem.W.keepIn X.K (.ref f) = true) (hb : KBn X.K fd ps 0 ks g gV) (hx : Passes CX X E) (hkw : PK X kws tk)
    (hall : (backToKw pos (keywordEach kws X.env)).all (·.1.isSome) = true) (hks : (backToKw pos (keywordEach kws X.env)).filterMap (·.1) = ks)
    (hpl : ((backTo pos (starEach [] X.env)).any (·.1) || (backToKw pos (keywordEach kws X.env)).any (·.1.isNone)) = false) (hdb : (x == ("__debug__" : Str)) = false) :
    PE X (.Call (.Name x p) [] kws pos) (tCallN 0 ks.length sp gV E tNil tk) :=
  ⟨fun pins s σ H Q I h => wpAny_Call_Name_kw (ld_glob I hg hm (PySem.W.callWith_KW0 (h₀ := X.base) I.ok.mod.kin hk hall (thn (hkw.run pos pins s σ H _ I h) fun ws s' ⟨zs, H', I', rz, len0, lenK, q⟩ =>
    ⟨I'.kIn, hks.symm ▸ run_fnN F hr hb hx I' .nil rz len0 lenK q⟩) hpl) hdb)⟩
theorem ed_callK0 {φ : List PyData → Option Rs} (F : KfK X.prog X.w X.K X.mg X.base k x (spD X.K n φ) 0 ks π) (hr : Room j X.A) (hk : k ≤ j) (hn : ∀ ds, (φ ds).isSome = true → ds.length = n) (h : KD X kws fk)
    (l2 : ∀ {e e' : Ev} {rs : List Rs}, fk e = some (rs, e') → rs.length = ks.length) (hg : Gl X x := by rfl)
    (hall : (backToKw pos (keywordEach kws X.env)).all (·.1.isSome) = true := by rfl) (hks : (backToKw pos (keywordEach kws X.env)).filterMap (·.1) = ks := by rfl)
    (hpl : ((backTo pos (starEach [] X.env)).any (·.1) || (backToKw pos (keywordEach kws X.env)).any (·.1.isNone)) = false := by rfl) (hdb : (x == ("__debug__" : Str)) = false := by decide) :
    ED X (.Call (.Name x p) [] kws pos) (x_callK φ π a_nil fk) := by
  obtain ⟨f, fd, ps, F, hm, kp, hb⟩ := F.ex
  obtain ⟨t, pk, kz⟩ := h
  refine ⟨_, pe_callN0 F (hr.mono hk) hg hm kp hb (E := E0) (fun _ _ _ _ _ _ _ z => z.elim) pk hall hks hpl hdb, callK_ok hn (fun m E G0 G e σ H rs e' Q R q P => ?_) kz (fun q => ?_) l2⟩
  · cases q
    exact P [] G H R Stp.refl True.intro
  · cases q
    rfl
theorem len_nil {e e' : Ev} {rs : List Rs} (q : a_nil e = some (rs, e')) : rs.length = 0 := by
  cases q
  rfl
theorem len_cons {fe : Fe} {fr : Fa} {n : Nat} (h : ∀ {e e' : Ev} {rs : List Rs}, fr e = some (rs, e') → rs.length = n) {e e' : Ev} {rs : List Rs} (q : a_cons fe fr e = some (rs, e')) : rs.length = n + 1 := by
  unfold a_cons at q
  split at q
  · split at q
    · rename_i z
      cases q
      exact congrArg (· + 1) (h z)
    · cases q
  · cases q
end
end DL
namespace DL
open PySem PySem.Spec PyProof.Rows L2
theorem spD_void {K : PySem.W.Frag} {n : Nat} {vs : List V} {H : Hp} {Q : VK} {E : XK} (h : spD K n (fun _ => none) vs H Q E) : False := by
  obtain ⟨_, _, _, _, _, _, h, _⟩ := h
  cases h
theorem fn_void {P : Program} {w : World} {K : PySem.W.Frag} {mg : Str → Option Value} {base : Heap} {CX : CXT} {k n : Nat} {f : Addr} {fd : FuncData} {ps : List Str} : FnOk P w K mg base CX k f fd ps (spD K n (fun _ => none)) :=
  ⟨fun _ _ _ _ h => (spD_void h).elim, by
    intros
    exact (spD_void (by assumption)).elim⟩
end DL
namespace DL
open L2 PySem PySem.Spec PySem.W PyProof.Rows
section
variable {K : PySem.W.Frag} {m : Option Addr} {E : Ef} {G0 G H H1 H2 : Hp} {e : Ev} {σ : St} {i : Nat} {p q : Addr}
/-- the frame, an object exchanged -/
def Ef.put (E : Ef) (q : Addr) (hb : E.b q = none) (o : Option HO) : Ef := ⟨fun a => if a = q then o else E.h a, E.b, fun a u z => by
  have n : a ≠ q := ne_of_none z hb
  rw [if_neg n]
  exact E.sub a u z⟩
end
end DL
namespace DL
open L2 PySem PySem.Spec PySem.W PyProof.Rows
def PoSN (K : PySem.W.Frag) (m : Option Addr) (B G0 G : Hp) (D : Ends) : Fl → Prop
  | .nx e => ∀ (E : Ef) G' σ H, E.b = B → Same G G' → Rz K m E G0 G' e σ H → D.nx σ H
  | .bk e => ∀ (E : Ef) G' σ H, E.b = B → Same G G' → Rz K m E G0 G' e σ H → D.bk σ H
  | .ct e => ∀ (E : Ef) G' σ H, E.b = B → Same G G' → Rz K m E G0 G' e σ H → D.ct σ H
  | .rt r e => ∀ (E : Ef) v G' σ H, E.b = B → Same G G' → Rz K m E G0 G' e σ H → Vr K E G' H σ e v r → D.rt v H
structure SDN (X : Cx) (st : Stmt) (f : Fs) : Prop where
  ex : ∃ t : TS, PS X st t ∧ ∀ (m : Option Addr) (E : Ef) (G0 G : Hp) (e : Ev) (σ : St) (H : Hp) (fl : Fl) (D : Ends),
    Rz X.K m E G0 G e σ H → f e = some fl → PoSN X.K m E.b G0 G D fl → t D σ H
section
variable {K : PySem.W.Frag} {m : Option Addr} {B G0 G G' H : Hp} {E : Ef} {D : Ends} {fl : Fl} {e : Ev} {σ : St}
theorem PoSN.aft (P : PoSN K m B G0 G D fl) (s : Same G G') : PoSN K m B G0 G' D fl := by
  cases fl with
  | nx e => exact fun E G2 σ H b s2 R => P E G2 σ H b (s.trans s2) R
  | bk e => exact fun E G2 σ H b s2 R => P E G2 σ H b (s.trans s2) R
  | ct e => exact fun E G2 σ H b s2 R => P E G2 σ H b (s.trans s2) R
  | rt r e => exact fun E v G2 σ H b s2 R V => P E v G2 σ H b (s.trans s2) R V
theorem PoSN.pos (P : PoSN K m E.b G0 G D fl) : PoS K m E G0 G D fl := by
  cases fl with
  | nx e => exact fun G' σ H s R => P E G' σ H rfl s R
  | bk e => exact fun G' σ H s R => P E G' σ H rfl s R
  | ct e => exact fun G' σ H s R => P E G' σ H rfl s R
  | rt r e => exact fun v G' σ H s R V => P E v G' σ H rfl s R V
end
section
variable {X : Cx} {st : Stmt} {rest sts : List Stmt} {f g : Fs} {pos : Pos} {a : Expr} {fe : Fe}
theorem SD.n (h : SD X st f) : SDN X st f := by
  obtain ⟨t, p, k⟩ := h
  exact ⟨t, p, fun m E G0 G e σ H fl D R q P => k m E G0 G e σ H fl D R q P.pos⟩
theorem SDN.fz (j : Nat) (h : SDN X st f) (hj : j ≠ 0 := by decide) : SDN X st (s_fz j f) := by
  obtain ⟨t, p, k⟩ := h
  refine ⟨_, p, fun m E G0 G e σ H fl D R q P => ?_⟩
  obtain ⟨G', s, R'⟩ := R.fz hj
  exact k m E G0 G' _ σ H fl D R' q (P.aft s)
end
section
variable {K : PySem.W.Frag} {m : Option Addr} {E : Ef} {G0 G H : Hp} {e : Ev} {σ : St} {i : Nat}
/-- slot i is not the caller's list -/
theorem Rz.set (R : Rz K m E G0 G e σ H) {E' : Ef} {G' H' : Hp} {s : Option Sl} (ok : okS [i] e = true) (R' : Rl K m E' G0 G' (e.set i s) σ H') : Rz K m E' G0 G' (e.set i s) σ H' :=
  ⟨R', fun p z => by
    obtain ⟨z1, z2⟩ := R.z p z
    have n : i ≠ 0 := fun y => okS_no ok z1 (by rw [y]; exact List.mem_singleton.mpr rfl)
    rw [List.getElem?_set_ne n]
    exact ⟨z1, z2⟩⟩
end
end DL
namespace DL
open L2 PySem PySem.Spec PySem.W PyProof.Rows
end DL
namespace DL
open L2 PySem PySem.Spec PySem.W PyProof.Rows
end DL
namespace DL
open L2 PySem PySem.Spec PySem.W PyProof.Rows
end DL
namespace DL
open L2 PySem PySem.Spec PySem.W PyProof.Rows
def isNoneD : PyData → Bool
  | .none => true
  | _ => false
theorem notNone {d : PyData} (h : (!isNoneD d) = true) : d ≠ .none := fun z => by
  rw [z] at h
  cases h
def okOrd (a b : PyData) : Bool := alike a b && (!isNoneD a && decide (a.depth ≤ 64))
def d_ord (f : PyData → PyData → Bool) (a b : PyData) : Option PyData := if okOrd a b = true then some (.bool (f a b)) else none
def rOrd (K : PySem.W.Frag) (f : PyData → PyData → Bool) : R2 := fun x y H Q => ∃ a b, Dp K H x a ∧ Dp K H y b ∧ okOrd a b = true ∧ Q (.bl (f a b)) H
def q_lt : PyData → PyData → Option Rs := orF p_lt fun a b => (d_ord (fun a b => dataLt a b) a b).map Rs.im
def q_gt : PyData → PyData → Option Rs := orF p_gt fun a b => (d_ord (fun a b => dataLt b a) a b).map Rs.im
def q_le : PyData → PyData → Option Rs := orF p_le fun a b => (d_ord (fun a b => !dataLt b a) a b).map Rs.im
def q_ge : PyData → PyData → Option Rs := orF p_ge fun a b => (d_ord (fun a b => !dataLt a b) a b).map Rs.im
theorem vb_ord {K : PySem.W.Frag} {f : PyData → PyData → Bool} : VB K (rOrd K f) (fun a b => (d_ord f a b).map Rs.im) := VB.pure fun G H x y dx dy d Q s lx ly q P => by
  unfold d_ord at q
  by_cases z : okOrd dx dy = true
  · rw [if_pos z] at q
    cases q
    exact ⟨dx, dy, lx.dp s, ly.dp s, z, P _ (.bl _)⟩
  · rw [if_neg z] at q
    cases q
section
variable {X : Cx}
theorem ord_ok {a b : PyData} (h : okOrd a b = true) : alike a b = true ∧ a ≠ .none ∧ a.depth ≤ 64 := by
  unfold okOrd at h
  rw [Bool.and_eq_true, Bool.and_eq_true] at h
  exact ⟨h.1, notNone h.2.1, of_decide_eq_true h.2.2⟩
theorem op_ord {op : CmpOp} {f : PyData → PyData → Bool} (hu : X.A.units + 64 < cLine)
    (k : ∀ {s : Shared} {a b : Value} {da db : PyData} {as bs : List Addr} {Q : Value → Shared → Prop}, Reads s.heap a da as → Reads s.heap b db bs → alike da db = true → da ≠ .none → X.A.units + min da.depth db.depth < cLine → Q (.bool (f da db)) s → wpAny (model X.prog X.w) X.A (compareOp op a b) Q X.xe s) :
    OpR X (compareOp op) (rOrd X.K f) := by
  rintro pins s σ H x y v u Q I rx ry ⟨a, b, hx, hy, ok, q⟩
  obtain ⟨as, ra⟩ := Dp.reads I a x v hx rx
  obtain ⟨bs, rb⟩ := Dp.reads I b y u hy ry
  obtain ⟨o1, o2, o3⟩ := ord_ok ok
  exact k ra rb o1 o2 (by omega) ⟨.bl _, H, I, rfl, q⟩
theorem vq_lt : VB X.K (fun x y H Q => (rI0 fun i j => .bl (decide (i < j))) x y H Q ∨ rOrd X.K (fun a b => dataLt a b) x y H Q) q_lt := VB.or vb_lt vb_ord
theorem vq_gt : VB X.K (fun x y H Q => (rI0 fun i j => .bl (decide (j < i))) x y H Q ∨ rOrd X.K (fun a b => dataLt b a) x y H Q) q_gt := VB.or vb_gt vb_ord
theorem vq_le : VB X.K (fun x y H Q => (rI0 fun i j => .bl (decide (i ≤ j))) x y H Q ∨ rOrd X.K (fun a b => !dataLt b a) x y H Q) q_le := VB.or vb_le vb_ord
theorem vq_ge : VB X.K (fun x y H Q => (rI0 fun i j => .bl (decide (j ≤ i))) x y H Q ∨ rOrd X.K (fun a b => !dataLt a b) x y H Q) q_ge := VB.or vb_ge vb_ord
theorem oq_lt (hu : X.A.units + 64 < cLine) : OpR X (compareOp .Lt) (fun x y H Q => (rI0 fun i j => .bl (decide (i < j))) x y H Q ∨ rOrd X.K (fun a b => dataLt a b) x y H Q) :=
  OpR.or op_lt (op_ord hu fun ra rb h hn hz q => lt_data ra rb h hn hz q)
theorem oq_gt (hu : X.A.units + 64 < cLine) : OpR X (compareOp .Gt) (fun x y H Q => (rI0 fun i j => .bl (decide (j < i))) x y H Q ∨ rOrd X.K (fun a b => dataLt b a) x y H Q) :=
  OpR.or op_gt (op_ord hu fun ra rb h hn hz q => gt_data ra rb h hn hz q)
theorem oq_le (hu : X.A.units + 64 < cLine) : OpR X (compareOp .LtE) (fun x y H Q => (rI0 fun i j => .bl (decide (i ≤ j))) x y H Q ∨ rOrd X.K (fun a b => !dataLt b a) x y H Q) :=
  OpR.or op_le (op_ord hu fun ra rb h hn hz q => le_data ra rb h hn hz q)
theorem oq_ge (hu : X.A.units + 64 < cLine) : OpR X (compareOp .GtE) (fun x y H Q => (rI0 fun i j => .bl (decide (j ≤ i))) x y H Q ∨ rOrd X.K (fun a b => !dataLt a b) x y H Q) :=
  OpR.or op_ge (op_ord hu fun ra rb h hn hz q => ge_data ra rb h hn hz q)
end
def alikeB (ds : List PyData) : Bool := ds.all fun x => !isNoneD x && ds.all fun y => alike x y
theorem alikeB_ok {ds : List PyData} (h : alikeB ds = true) : AlikeAll ds := by
  refine ⟨fun x hx y hy => ?_, fun x hx => ?_⟩
  · have z := List.all_eq_true.mp h x hx
    rw [Bool.and_eq_true] at z
    exact List.all_eq_true.mp z.2 y hy
  · have z := List.all_eq_true.mp h x hx
    rw [Bool.and_eq_true] at z
    exact notNone z.1
def okMM (ds : List PyData) : Bool := alikeB ds && (PyData.plainAll ds && decide (PyData.depthAll ds ≤ 60))
def c_mmD (f : PyData → List PyData → PyData) : List PyData → Option Rs
  | [.list (d :: ds)] => if okMM (d :: ds) = true then some (.im (f d ds)) else none
  | _ => none
def rMmD (K : PySem.W.Frag) (f : PyData → List PyData → PyData) : List V → Hp → VK → Prop := fun vs H Q => ∃ (G : Hp) (a : Addr) (ws : List V) (d : PyData) (ds : List PyData), Same G H ∧ vs = [V.ref a] ∧ SqL K H a ws ∧ DpAll K G ws (d :: ds) ∧ okMM (d :: ds) = true ∧ ∀ v, Dp K G v (f d ds) → Q v H
theorem vc_mmD {K : PySem.W.Frag} {f : PyData → List PyData → PyData} : VC K (rMmD K f) (c_mmD f) := by
  intro m E G0 G e σ H vs ds rr Q R l q P
  unfold c_mmD at q
  split at q
  · rename_i d ds
    by_cases z : okMM (d :: ds) = true
    · rw [if_pos z] at q
      cases q
      obtain ⟨v, rfl, lv⟩ := lv1 l
      obtain ⟨p, ws, rfl, s1, k⟩ := lv.list R.gh
      exact ⟨G, p, ws, d, ds, R.gh, rfl, s1, k, z, fun v hv => P.now R hv True.intro⟩
    · rw [if_neg z] at q
      cases q
  · cases q
section
variable {X : Cx}
theorem plain_mem {ds : List PyData} (h : PyData.plainAll ds = true) : ∀ d ∈ ds, d.plain = true := by
  induction ds with
  | nil => intro d hd; cases hd
  | cons x ds ih =>
    rw [PyData.plainAll, Bool.and_eq_true] at h
    intro d hd
    rcases List.mem_cons.mp hd with z | z
    · rw [z]
      exact h.1
    · exact ih h.2 d z
theorem fold_mem {α : Type} (c : α → α → Bool) : ∀ (xs : List α) (x : α), xs.foldl (fun a y => if c y a then y else a) x ∈ x :: xs
  | [], x => List.mem_cons_self
  | y :: ys, x => by
    rw [List.foldl_cons]
    have z := fold_mem c ys (if c y x then y else x)
    rcases List.mem_cons.mp z with z | z
    · rw [z]
      by_cases w : c y x = true
      · rw [if_pos w]
        exact List.mem_cons_of_mem _ List.mem_cons_self
      · rw [if_neg w]
        exact List.mem_cons_self
    · exact List.mem_cons_of_mem _ (List.mem_cons_of_mem _ z)
theorem maxD_mem (x : PyData) (xs : List PyData) : maxD x xs ∈ x :: xs := fold_mem (fun y a => dataLt a y) xs x
theorem cr_mmD {id : String} {f : PyData → List PyData → PyData} (fm : ∀ x xs, f x xs ∈ x :: xs) (hc : X.calm = true) (hu : X.A.units + 64 < cLine)
    (k : ∀ {s : Shared} {l : Addr} {vs : Array Value} {x : PyData} {xs : List PyData} {as : List Addr} {Q : Value → Shared → Prop}, X.A.handled = none → s.heap.IsList l vs → ReadsAll s.heap vs.toList (x :: xs) as → AlikeAll (x :: xs) → X.A.units + 1 + PyData.depthAll (x :: xs) < cLine →
      (∀ (i : Nat) v h' tk bs, vs[i]? = some v → Reads h' v (f x xs) bs → (∀ b o, s.heap.get? b = some o → h'.get? b = some o) → Q v { s with heap := h', toks := tk }) → wpAny (model X.prog X.w) X.A (call (.builtin id) [.ref l]) Q X.xe s) :
    CallR X (.builtin id) (rMmD X.K f) := by
  rintro pins s σ H vs us Q I r ⟨G, a, ws, d, ds, sg, rfl, hs, hd, ok, q⟩
  obtain ⟨its, rv, pl, _⟩ := I.list hs
  rw [Vals.ref1 r]
  obtain ⟨as, hr⟩ := Dp.readsAll I _ _ its (dpAll_same sg hd) rv
  unfold okMM at ok
  rw [Bool.and_eq_true, Bool.and_eq_true, decide_eq_true_eq] at ok
  refine k (I.ok.hd hc) pl.isList hr (alikeB_ok ok.1) (by omega) fun i v g tk bs hi rd hk => ?_
  have hi2 : its[i]? = some v := by simpa using hi
  have li := (List.getElem?_eq_some_iff.mp hi2).1
  have lw := rv.length
  obtain ⟨x, hx⟩ : ∃ x, ws[i]? = some x := ⟨ws[i]'(by omega), List.getElem?_eq_getElem _⟩
  obtain ⟨v2, hv2, rx⟩ := rv.get hx
  rw [hi2] at hv2
  cases hv2
  obtain ⟨d2, hd2, dp⟩ := dpAll_at hd hx
  obtain ⟨cs, rd2⟩ := Dp.reads I d2 x v (dp_same sg dp) rx
  have p1 := plain_mem ok.2.1 _ (fm d ds)
  have p2 := plain_mem ok.2.1 d2 (List.mem_of_getElem? hd2)
  have e1 := SeqAt.readOf_plain p1 rd
  have e2 := SeqAt.readOf_plain p2 (reads_keeps hk rd2)
  have e3 : f d ds = d2 := e1.symm.trans e2
  exact ⟨x, H, I.kept hk, rx, q x (by rw [e3]; exact dp)⟩
end
def c_maxB : List PyData → Option Rs := orC c_maxA (c_mmD maxD)
theorem vc_maxB {K : PySem.W.Frag} : VC K (fun vs H Q => (rMax K vs H Q ∨ rMaxT K vs H Q) ∨ rMmD K maxD vs H Q) c_maxB := VC.or vc_maxA vc_mmD
theorem cr_maxB {X : Cx} (hc : X.calm = true) (hu : X.A.units + 64 < cLine) : CallR X (.builtin "max") (fun vs H Q => (rMax X.K vs H Q ∨ rMaxT X.K vs H Q) ∨ rMmD X.K maxD vs H Q) :=
  CallR.or (cr_maxA hc hu) (cr_mmD maxD_mem hc hu fun a b c d e f => max_list_data a b c d e f)
end DL
namespace DL
open L2 PySem PySem.Spec PySem.W PyProof.Rows
section
variable {i j : Int}
theorem e_qlt : q_lt (.int i) (.int j) = some (.im (.bool (decide (i < j)))) := rfl
theorem e_qle : q_le (.int i) (.int j) = some (.im (.bool (decide (i ≤ j)))) := rfl
theorem e_qgt : q_gt (.int i) (.int j) = some (.im (.bool (decide (j < i)))) := rfl
theorem e_qge : q_ge (.int i) (.int j) = some (.im (.bool (decide (j ≤ i)))) := rfl
end
/-- an item told by the number of a version -/
def gv {α : Type} [Inhabited α] (l : List α) (v : Nat) : α := l.getD (v - 1) default
theorem gv_get {α : Type} [Inhabited α] {l : List α} {k : Nat} (h : k < l.length) : l[k]? = some (gv l (k + 1)) := by
  unfold gv
  rw [Nat.add_sub_cancel, List.getD_eq_getElem?_getD, List.getElem?_eq_getElem h]
  rfl
section
variable {α : Type} [Inhabited α] {f : α → PyData} {l : List α}
theorem gv_mem {v : Nat} (h : 1 ≤ v) (h2 : v ≤ l.length) : gv l v ∈ l := by
  have := gv_get (l := l) (k := v - 1) (by omega)
  rw [Nat.sub_add_cancel h] at this
  exact List.mem_of_getElem? this
end
def wS (f : Fs) (e : Ev) (Q : Fl → Prop) : Prop := ∃ fl, f e = some fl ∧ Q fl
def seqK (g : Fs) (Q : Fl → Prop) : Fl → Prop
  | .nx e => wS g e Q
  | .bk e => Q (.bk e)
  | .ct e => Q (.ct e)
  | .rt r e => Q (.rt r e)
section
variable {f g : Fs} {e e1 : Ev} {Q : Fl → Prop} {c : Ft} {x : Fe} {r : Rs} {fl : Fl}
theorem w_seq (h : wS f e (seqK g Q)) : wS (s_seq f g) e Q := by
  obtain ⟨fl, h1, h2⟩ := h
  cases fl with
  | nx e1 =>
    obtain ⟨fl, h3, h4⟩ := h2
    exact ⟨fl, by rw [r_s_seq, h1]; exact h3, h4⟩
  | bk e => exact ⟨.bk e, by rw [r_s_seq, h1], h2⟩
  | ct e => exact ⟨.ct e, by rw [r_s_seq, h1], h2⟩
  | rt r e => exact ⟨.rt r e, by rw [r_s_seq, h1], h2⟩
theorem w_nx (q : Q (.nx e)) : wS s_nx e Q := ⟨_, rfl, q⟩
theorem w_ret (h : x e = some (r, e1)) (q : Q (.rt r e1)) : wS (s_ret x) e Q := ⟨_, ret h, q⟩
theorem w_drop (h : x e = some (r, e1)) (q : Q (.nx e1)) : wS (s_drop x) e Q := ⟨_, drop h, q⟩
theorem w_setI {i : Nat} {d : PyData} (h : x e = some (.im d, e1)) (ok : okS [i] e1 = true) (q : Q (.nx (e1.set i (some (.im d))))) : wS (s_setF i x) e Q := ⟨_, setF h ok rfl, q⟩
theorem w_setL {i : Nat} {ds : List PyData} (h : x e = some (.ac ds, e1)) (ok : okS [i] e1 = true) (q : Q (.nx (e1.set i (some (.im (.list ds)))))) : wS (s_setF i x) e Q := ⟨_, setF h ok rfl, q⟩
theorem w_setA {i : Nat} {ds : List PyData} (h : x e = some (.ac ds, e1)) (ok : okS [i] e1 = true) (q : Q (.nx (e1.set i (some (.ac ds))))) : wS (s_set i x) e Q := ⟨_, setX h ok rfl, q⟩
theorem w_fz {j : Nat} (h : wS f (fzE j e) Q) : wS (s_fz j f) e Q := h
theorem w_if {b : Bool} (h : c e = some (b, e1)) (t : b = true → wS f e1 Q) (n : b = false → wS g e1 Q) : wS (s_if c f g) e Q := by
  cases b with
  | true =>
    obtain ⟨fl, h1, h2⟩ := t rfl
    exact ⟨fl, ifT h h1, h2⟩
  | false =>
    obtain ⟨fl, h1, h2⟩ := n rfl
    exact ⟨fl, ifF h h1, h2⟩
end
section
variable {e : Ev} {d : PyData} {ds : List PyData} {r : Rs} {rs : List Rs} {i : Nat} {S : List Nat}
theorem n_lookAll1 {e : Ev} {r : Rs} {rs : List Rs} : lookAll e (r :: rs) = (match lookR e r with
    | some d => (match lookAll e rs with
      | some ds => some (d :: ds)
      | none => none)
    | none => none) := rfl
theorem n_max2 {k j : Int} : c_max2 [.int k, .int j] = some (.im (.int (max k j))) := by
  show some (Rs.im (.int (if j > k then j else k))) = _
  congr 3
  split <;> omega
theorem n_min2 {k j : Int} : c_min2 [.int k, .int j] = some (.im (.int (min k j))) := by
  show some (Rs.im (.int (if j < k then j else k))) = _
  congr 3
  split <;> omega
theorem n_all0 {bs : List Bool} : c_all [.list (bs.map PyData.bool)] = some (.im (.bool (bs.all id))) := by
  unfold c_all
  simp only [unB_map]
end
end DL
namespace DL
open L2 PySem PySem.Spec PySem.W PyProof.Rows
theorem pe_or {X : Cx} {e : Expr} {t1 t2 : TE} (h1 : PE X e t1) (h2 : PE X e t2) : PE X e (fun σ H Q => t1 σ H Q ∨ t2 σ H Q) :=
  ⟨fun pins s σ H Q I h => h.elim (h1.run pins s σ H Q I) (h2.run pins s σ H Q I)⟩
end DL
namespace DL
open L2 PySem PySem.Spec PySem.W PyProof.Rows
abbrev im (d : PyData) : Option Sl := some (.im d)
abbrev ac (ds : List PyData) : Option Sl := some (.ac ds)
end DL
namespace DL
open L2 PySem PySem.Spec PySem.W PyProof.Rows
section
variable {x y : Fe} {e e1 e2 : Ev} {a b d : PyData} {r : Rs} {φ : List PyData → Option Rs} {Q : Fl → Prop} {ds : List PyData} {fa : Fa} {i : Nat}
theorem cbI1 (h : x e = some (.im d, e1)) (k : φ [d] = some r) : x_cb φ (a_cons x a_nil) e = some (r, e1) := by
  simp [r_x_cb, r_argsD, r_a_cons, r_a_nil, h, lookAll, lookR, frzR, k]
theorem tupI (h : argsI fa e = some (ds, e1)) (hl : ds.length ≤ 16777216) : x_tup fa e = some (.im (.tuple ds), e1) := by
  rw [r_x_tup, h]
  dsimp only
  rw [if_pos (okLen_yes hl)]
theorem iRng1 {m : Nat} (h : x e = some (.im (.int (m : Int)), e1)) (hm : m ≤ 1000000) : i_rng1 x e = some ((List.range m).map nD, e1) := i_rng1_at h hm
theorem negI {k : Int} (h : x e = some (.im (.int k), e1)) : x_neg x e = some (.im (.int (-k)), e1) := by
  rw [r_x_neg, h]
end
end DL
namespace DL
open L2 PySem PySem.Spec PySem.W PyProof.Rows
theorem callKI {φ : List PyData → Option Rs} {π : List Nat} {fa fk : Fa} {e e1 e2 : Ev} {ds zs ds' : List PyData} {d : PyData} (h1 : argsI fa e = some (ds, e1)) (h2 : argsI fk e1 = some (zs, e2)) (hd : perm π (ds ++ zs) = ds') (h : φ ds' = some (.im d)) : x_callK φ π fa fk e = some (.im d, e2) := by
  unfold x_callK
  rw [h1]
  dsimp only
  rw [h2]
  dsimp only
  rw [hd, h]
theorem maxB_list {ns : List Int} (h : ns ≠ []) : c_maxB [.list (ns.map PyData.int)] = some (.im (.int (maxI ns))) := by
  cases ns with
  | nil => exact absurd rfl h
  | cons n ns =>
    unfold c_maxB c_maxA orC
    have q : c_max [.list ((n :: ns).map PyData.int)] = some (.im (.int (maxI (n :: ns)))) := by
      unfold c_max c_intsL
      dsimp only
      rw [unI_ints]
      rfl
    rw [q]
end DL
namespace DL
open L2 PySem PySem.Spec PySem.W PyProof.Rows
end DL
namespace DL
open PySem PySem.Spec PyProof.Rows L2
section
variable {X : Cx}
variable {elt tg it tg1 it1 : Expr} {ifs ifs1 : List Expr} {scope : Scope} {own : List (Str × Nat)} {pos spos : Pos} {fi fi1 : Fi} {S S1 vs1 : List Nat} {γ γ1 : PyData → Ev → Option Ev} {tst tst1 : Ft} {fe : Fe}
/-- a source, by what it gives -/
def wiOf (K : PySem.W.Frag) (f : Fi) : TI := fun σ H Q => ∃ m E G0 G e ds e', Rl K m E G0 G e σ H ∧ f e = some (ds, e') ∧ ∀ J G' H', Rl K m E G0 G' e' σ H' → Stp σ G H e G' H' e' → WalkD K G' J ds → Q J H'
theorem ID.can {X : Cx} {tg it : Expr} {f : Fi} (h : ID X tg it f) : PI X tg it (wiOf X.K f) := by
  obtain ⟨wi, p, k⟩ := h
  exact ⟨fun pins s σ H Q I ⟨m, E, G0, G, e, ds, e', R, q, P⟩ => p.run pins s σ H Q I (k m E G0 G e σ H ds e' Q R q P)⟩
end
end DL
namespace DL
open L2 PySem PySem.Spec PySem.W PyProof.Rows
section
variable {K : PySem.W.Frag} {m : Option Addr} {E : Ef} {G0 G H : Hp} {e : Ev} {σ : St} {p : Addr} {i : Nat}
theorem Rl.newG {o : HO} (R : Rl K m E G0 G e σ H) (h : H p = none) :
    Rl K m E G0 (upd G p o) e σ (upd H p o) ∧ Stp σ G H e (upd G p o) (upd H p o) e := by
  obtain ⟨hG, hE, hO, hm⟩ := R.fresh h
  have s1 : Same G (upd G p o) := same_new hG
  have nb : ∀ {b : Addr}, H b ≠ none → b ≠ p := fun {b} z y => z (by rw [y]; exact h)
  refine ⟨⟨R.gg.trans s1, fun b u z => ?_, fun b u b1 b2 => ?_, fun b b1 => ⟨(R.mh b b1).1, ?_⟩, fun b b1 b2 => ?_, R.len, fun i d z => ?_, fun i ds' z => ?_, R.inj, fun i dss z => (R.ot i dss z).mono s1⟩, ⟨s1, fun b b1 b2 => ?_, fun b u b1 _ => same_new h b u b1, fun _ => rfl, fun b b1 => ?_⟩⟩
  · by_cases y : b = p
    · subst y
      rw [upd_same] at z ⊢
      exact z
    · rw [upd_ne y] at z ⊢
      exact R.gh b u z
  · exact same_new h b u (R.eh b u b1 b2)
  · rw [upd_ne (nb (R.mh b b1).2)]
    exact (R.mh b b1).2
  · have y : b ≠ p := fun y => b2 (by rw [y]; exact hE)
    rw [upd_ne y]
    exact R.nw b b1 b2
  · obtain ⟨u, z1, z2⟩ := R.im i d z
    exact ⟨u, z1, dp_same s1 z2⟩
  · obtain ⟨p', ws', z1, z2, z3, z4, z5⟩ := R.ac i ds' z
    have y : p' ≠ p := nb (by rw [z3]; simp)
    exact ⟨p', ws', z1, by rw [upd_ne y]; exact z2, by rw [upd_ne y]; exact z3, dpAll_same s1 z4, z5⟩
  · rw [upd_ne (nb b2)]
    exact b1
  · rw [upd_ne (nb b1)]
    exact b1
theorem Rl.setO {dss : Ok} (R : Rl K m E G0 G e σ H) (h : ObF K G (some (some (.ref p))) dss) : Rl K m E G0 G (e.set i (some (.ob dss))) (σ.set i (some (.ref p))) H := by
  have hl := R.len
  have keep : ∀ {j : Nat} {s : Sl}, (e.set i (some (.ob dss)))[j]? = some (some s) → (∀ d, s ≠ .ob d) → e[j]? = some (some s) ∧ (σ.set i (some (V.ref p)))[j]? = σ[j]? := fun {j s} z ns => by
    rw [set_get] at z ⊢
    by_cases y : i = j ∧ j < e.length
    · rw [if_pos y] at z
      cases z
      exact absurd rfl (ns dss)
    · rw [if_neg y] at z
      exact ⟨z, if_neg (by omega)⟩
  refine ⟨R.gg, R.gh, R.eh, R.mh, R.nw, by rw [List.length_set, List.length_set]; exact hl, fun j d z => ?_, fun j ds z => ?_, fun j k dj dk q1 z1 z2 z3 z4 => ?_, fun j ds z => ?_⟩
  · obtain ⟨a1, a2⟩ := keep z fun _ y => by cases y
    rw [a2]
    exact R.im j d a1
  · obtain ⟨a1, a2⟩ := keep z fun _ y => by cases y
    rw [a2]
    exact R.ac j ds a1
  · obtain ⟨a1, a2⟩ := keep z1 fun _ y => by cases y
    obtain ⟨b1, b2⟩ := keep z2 fun _ y => by cases y
    rw [a2] at z3
    rw [b2] at z4
    exact R.inj j k dj dk q1 a1 b1 z3 z4
  · rw [set_get] at z ⊢
    by_cases y : i = j ∧ j < e.length
    · rw [if_pos y] at z
      cases z
      rw [if_pos ⟨y.1, by omega⟩]
      exact h
    · rw [if_neg y] at z
      rw [if_neg (by omega)]
      exact R.ot j ds z
theorem Rz.setO {k : Ok} (R : Rz K m E G0 G e σ H) (h : ObF K G (some (some (.ref p))) k) (ok : okS [i] e = true) : Rz K m E G0 G (e.set i (some (.ob k))) (σ.set i (some (.ref p))) H :=
  ⟨R.r.setO h, fun q z => by
    obtain ⟨z1, z2⟩ := R.z q z
    have n : i ≠ 0 := fun y => okS_no ok z1 (by rw [y]; exact List.mem_singleton.mpr rfl)
    rw [List.getElem?_set_ne n, List.getElem?_set_ne n]
    exact ⟨z1, z2⟩⟩
end
end DL
namespace DL
open L2 PySem PySem.Spec PySem.W PyProof.Rows
section
variable {X : Cx}
def i_rgV (i : Nat) : Fi := fun e => match e[i]? with
  | some (some (.ob (.rng lo hi))) => if (rgC lo && rgC hi) = true then some (rngD lo (hi - lo).toNat 1, e) else none
  | _ => none
end
theorem rgV {i : Nat} {e : Ev} {n : Nat} (h : e[i]? = some (some (.ob (.rng 1 ((n : Int) + 1))))) (hn : n ≤ 1000000) : i_rgV i e = some ((List.range n).map fun k => nD (k + 1), e) := by
  unfold i_rgV
  rw [h]
  dsimp only
  have c : (rgC 1 && rgC ((n : Int) + 1)) = true := by
    rw [Bool.and_eq_true]
    exact ⟨by decide, decide_eq_true (by omega)⟩
  have l : rngD 1 n 1 = (List.range n).map fun k => nD (k + 1) := by
    unfold rngD
    refine List.map_congr_left fun k _ => ?_
    unfold nD
    rw [show ((1 : Int) + (k : Int) * 1) = ((k + 1 : Nat) : Int) by omega]
  rw [if_pos c, show ((n : Int) + 1 - 1).toNat = n by omega, l]
end DL
namespace DL
open L2 PySem PySem.Spec PySem.W PyProof.Rows
abbrev tp {α : Type} (f : α → PyData) (l : List α) : PyData := .tuple (l.map f)
abbrev ls {α : Type} (f : α → PyData) (l : List α) : PyData := .list (l.map f)
abbrev p2 {α β : Type} (f : α → PyData) (g : β → PyData) (x : α × β) : PyData := .tuple [f x.1, g x.2]
abbrev p3 {α β γ : Type} (f : α → PyData) (g : β → PyData) (h : γ → PyData) (x : α × β × γ) : PyData := .tuple [f x.1, g x.2.1, h x.2.2]
abbrev p4 {α β γ δ : Type} (f : α → PyData) (g : β → PyData) (h : γ → PyData) (k : δ → PyData) (x : α × β × γ × δ) : PyData := .tuple [f x.1, g x.2.1, h x.2.2.1, k x.2.2.2]
def opt {α : Type} (f : α → PyData) : Option α → PyData
  | none => .none
  | some a => f a
abbrev nn (_ : Unit) : PyData := .none
abbrev idD (d : PyData) : PyData := d
abbrev imo (o : Option PyData) : Option Sl := o.map Sl.im
theorem bnd {α β : Type} {o : Option α} {k : α → Option β} {b : β} (h : o.bind k = some b) : ∃ a, o = some a ∧ k a = some b := by
  cases o with
  | none => cases h
  | some a => exact ⟨a, rfl, h⟩
theorem if1 {α : Type} {c : Bool} {a b : α} (h : c = true) : (if c = true then a else b) = a := if_pos h
theorem if0 {α : Type} {c : Bool} {a b : α} (h : c = false) : (if c = true then a else b) = b := if_neg (by rw [h]; exact Bool.false_ne_true)
class EqE {α : Type} [DecidableEq α] (f : α → PyData) where
  d : Nat
  can : ∀ a, PyData.canLay0 (f a) = true
  dep : ∀ a, (f a).depth ≤ d
  eqv : ∀ a b, PyData.eqv (f a) (f b) = decide (a = b)
instance : EqE PyData.int := ⟨0, fun a => by rw [PyData.canLay0], fun a => by rw [PyData.depth]; omega, fun a b => by rw [PyData.eqv]; exact Bool.eq_iff_iff.mpr (by simp)⟩
instance : EqE PyData.bool := ⟨0, fun a => by rw [PyData.canLay0], fun a => by rw [PyData.depth]; omega, fun a b => by rw [PyData.eqv]; exact Bool.eq_iff_iff.mpr (by simp)⟩
instance : EqE nn := ⟨0, fun a => by rw [PyData.canLay0], fun a => by rw [PyData.depth]; omega, fun a b => by rw [PyData.eqv]; rfl⟩
section
variable {α : Type} [DecidableEq α] {f : α → PyData} [E : EqE f]
theorem can_all : ∀ l : List α, PyData.canLayAll0 (l.map f) = true
  | [] => by rw [List.map_nil, PyData.canLayAll0]
  | a :: l => by rw [List.map_cons, PyData.canLayAll0, can_all l, E.can]; rfl
theorem dep_all : ∀ l : List α, PyData.depthAll (l.map f) ≤ E.d
  | [] => by rw [List.map_nil, PyData.depthAll]; omega
  | a :: l => by
    rw [List.map_cons, PyData.depthAll]
    have := dep_all l
    have := E.dep a
    omega
theorem eqv_all : ∀ l m : List α, PyData.eqvAll (l.map f) (m.map f) = decide (l = m)
  | [], [] => by rw [List.map_nil, PyData.eqvAll]; rfl
  | [], b :: m => by simp [PyData.eqvAll]
  | a :: l, [] => by simp [PyData.eqvAll]
  | a :: l, b :: m => by
    rw [List.map_cons, List.map_cons, PyData.eqvAll, eqv_all l m, E.eqv]
    exact Bool.eq_iff_iff.mpr (by simp)
end
instance {α : Type} [DecidableEq α] {f : α → PyData} [E : EqE f] : EqE (tp f) := ⟨E.d + 1, fun a => by rw [PyData.canLay0]; exact can_all a, fun a => by rw [PyData.depth]; have := dep_all (f := f) a; omega, fun a b => by rw [PyData.eqv]; exact eqv_all a b⟩
instance {α : Type} [DecidableEq α] {f : α → PyData} [E : EqE f] : EqE (ls f) := ⟨E.d + 1, fun a => by rw [PyData.canLay0]; exact can_all a, fun a => by rw [PyData.depth]; have := dep_all (f := f) a; omega, fun a b => by rw [PyData.eqv]; exact eqv_all a b⟩
instance {α β : Type} [DecidableEq α] [DecidableEq β] {f : α → PyData} {g : β → PyData} [E : EqE f] [F : EqE g] : EqE (p2 f g) := ⟨max E.d F.d + 1, fun a => by simp [PyData.canLay0, PyData.canLayAll0, E.can, F.can], fun a => by
    rw [PyData.depth, PyData.depthAll, PyData.depthAll, PyData.depthAll]
    have := E.dep a.1
    have := F.dep a.2
    omega, fun a b => by
    rw [PyData.eqv, PyData.eqvAll, PyData.eqvAll, PyData.eqvAll, E.eqv, F.eqv]
    obtain ⟨a1, a2⟩ := a
    obtain ⟨b1, b2⟩ := b
    exact Bool.eq_iff_iff.mpr (by simp)⟩
instance {α β γ : Type} [DecidableEq α] [DecidableEq β] [DecidableEq γ] {f : α → PyData} {g : β → PyData} {h : γ → PyData} [E : EqE f] [F : EqE g] [G : EqE h] : EqE (p3 f g h) := ⟨max E.d (max F.d G.d) + 1, fun a => by simp [PyData.canLay0, PyData.canLayAll0, E.can, F.can, G.can], fun a => by
    rw [PyData.depth, PyData.depthAll, PyData.depthAll, PyData.depthAll, PyData.depthAll]
    have := E.dep a.1
    have := F.dep a.2.1
    have := G.dep a.2.2
    omega, fun a b => by
    rw [PyData.eqv, PyData.eqvAll, PyData.eqvAll, PyData.eqvAll, PyData.eqvAll, E.eqv, F.eqv, G.eqv]
    obtain ⟨a1, a2, a3⟩ := a
    obtain ⟨b1, b2, b3⟩ := b
    exact Bool.eq_iff_iff.mpr (by simp)⟩
section
variable {α : Type} [DecidableEq α] {f : α → PyData} [E : EqE f]
theorem shp1 (h : E.d ≤ 64) (a : α) : SeqAt.shaped (f a) = true := by
  unfold SeqAt.shaped
  rw [E.can, Bool.true_and, decide_eq_true_eq]
  exact Nat.le_trans (E.dep a) h
theorem o_eq (h : E.d ≤ 64) (a b : α) : p_eq (f a) (f b) = some (.im (.bool (decide (a = b)))) := by
  unfold p_eq
  rw [shp1 h, shp1 h, E.eqv]
  rfl
end
class Nn {α : Type} (f : α → PyData) : Prop where
  n : ∀ a, p_isN false (f a) .none = some (.bool false) ∧ p_isN true (f a) .none = some (.bool true)
instance : Nn PyData.int := ⟨fun _ => ⟨rfl, rfl⟩⟩
instance : Nn PyData.bool := ⟨fun _ => ⟨rfl, rfl⟩⟩
instance : Nn PyData.str := ⟨fun _ => ⟨rfl, rfl⟩⟩
instance {α : Type} {f : α → PyData} : Nn (tp f) := ⟨fun _ => ⟨rfl, rfl⟩⟩
instance {α : Type} {f : α → PyData} : Nn (ls f) := ⟨fun _ => ⟨rfl, rfl⟩⟩
instance {α β : Type} {f : α → PyData} {g : β → PyData} : Nn (p2 f g) := ⟨fun _ => ⟨rfl, rfl⟩⟩
instance {α β γ : Type} {f : α → PyData} {g : β → PyData} {h : γ → PyData} : Nn (p3 f g h) := ⟨fun _ => ⟨rfl, rfl⟩⟩
theorem o_isO {α : Type} {f : α → PyData} [N : Nn f] (o : Option α) : p_is (opt f o) .none = some (.im (.bool o.isNone)) := by
  cases o with
  | none => rfl
  | some a =>
    have q := (N.n a).1
    simp only [p_is, orF, opt, q, Option.map_some]
    rfl
section
variable {α β : Type} {f : α → PyData} {l m r : List α} {a : α} {i j k : Int}
theorem atI_map : atI (l.map f) i = (atI l i).map f := by
  unfold atI
  rw [List.length_map]
  cases ixN l.length i with
  | none => rfl
  | some j => exact List.getElem?_map
theorem o_ixT (h : atI l i = some a) : p_ix (tp f l) (.int i) = some (.im (f a)) := by
  show (atI (l.map f) i).map Rs.im = _
  rw [atI_map, h]
  rfl
theorem o_ixL (h : atI l i = some a) : p_ix (ls f l) (.int i) = some (.im (f a)) := by
  show (atI (l.map f) i).map Rs.im = _
  rw [atI_map, h]
  rfl
def mulO (i j : Int) : Option Int := if (mulC i j || mulWC i j) = true then some (i * j) else none
theorem o_mul (h : mulO i j = some k) : p_mul (.int i) (.int j) = some (.im (.int k)) := by
  unfold mulO at h
  unfold p_mul orF d_int2
  by_cases z : mulC i j = true
  · rw [z, Bool.true_or, if_pos rfl] at h
    cases h
    simp only [z, if_true]
    rfl
  · have z := Bool.eq_false_iff.mpr z
    rw [z, Bool.false_or] at h
    by_cases y : mulWC i j = true
    · rw [if_pos y] at h
      cases h
      simp only [z, y]
      rfl
    · rw [if_neg y] at h
      cases h
def divO (i j : Int) : Option Int := if 0 < j ∧ j.natAbs.log2 < 9000 then some (i / j) else none
theorem o_div (h : divO i j = some k) : p_div (.int i) (.int j) = some (.im (.int k)) := by
  unfold divO at h
  by_cases z : 0 < j ∧ j.natAbs.log2 < 9000
  · rw [if_pos z] at h
    cases h
    exact e_divW z.1 z.2
  · rw [if_neg z] at h
    cases h
def modO (i j : Int) : Option Int := if 0 < j then some (i % j) else none
theorem o_mod (h : modO i j = some k) : p_mod (.int i) (.int j) = some (.im (.int k)) := by
  unfold modO at h
  by_cases z : 0 < j
  · rw [if_pos z] at h
    cases h
    exact e_mod z
  · rw [if_neg z] at h
    cases h
def powO (i j : Int) : Option Int := if powC i j = true then some (i ^ j.toNat) else none
theorem o_pow (h : powO i j = some k) : p_pow (.int i) (.int j) = some (.im (.int k)) := by
  unfold powO at h
  by_cases z : powC i j = true
  · rw [if_pos z] at h
    cases h
    unfold p_pow d_int2
    simp only [z, if_true]
    rfl
  · rw [if_neg z] at h
    cases h
def catO (l m : List α) : Option (List α) := if l.length + m.length ≤ 16777216 then some (l ++ m) else none
theorem o_catT (h : catO l m = some r) : p_add (tp f l) (tp f m) = some (.im (tp f r)) := by
  unfold catO at h
  by_cases z : l.length + m.length ≤ 16777216
  · rw [if_pos z] at h
    cases h
    rw [e_catT (by rw [List.length_map, List.length_map]; exact z)]
    show _ = some (Rs.im (.tuple ((l ++ m).map f)))
    rw [List.map_append]
  · rw [if_neg z] at h
    cases h
theorem o_catL (h : catO l m = some r) : p_add (ls f l) (ls f m) = some (.ac (r.map f)) := by
  unfold catO at h
  by_cases z : l.length + m.length ≤ 16777216
  · rw [if_pos z] at h
    cases h
    rw [e_cat (by rw [List.length_map, List.length_map]; exact z), List.map_append]
  · rw [if_neg z] at h
    cases h
theorem cut_map {lo hi : Option Int} : cutD (l.map f) lo hi = (cutD l lo hi).map f := by
  unfold cutD
  rw [List.length_map, ← List.map_drop, ← List.map_take]
def maxO1 (l : List Int) : Option Int := if l = [] then none else some (maxI l)
theorem o_maxL {l : List Int} (h : maxO1 l = some k) : c_maxB [ls PyData.int l] = some (.im (.int k)) := by
  unfold maxO1 at h
  by_cases z : l = []
  · rw [if_pos z] at h
    cases h
  · rw [if_neg z] at h
    cases h
    exact maxB_list z
theorem o_lenT : c_len [tp f l] = some (.im (.int l.length)) := by
  show some (Rs.im (.int ((l.map f).length : Nat))) = _
  rw [List.length_map]
theorem o_lenL : c_len [ls f l] = some (.im (.int l.length)) := by
  show some (Rs.im (.int ((l.map f).length : Nat))) = _
  rw [List.length_map]
theorem o_allL {l : List Bool} : c_all [ls PyData.bool l] = some (.im (.bool (l.all id))) := n_all0
theorem o_sortedL {l : List Int} : c_sortedA [ls PyData.int l] = some (.ac ((upI l).map PyData.int)) := by
  have q : c_sortedI [ls PyData.int l] = some (.ac ((upI l).map PyData.int)) := by
    unfold c_sortedI c_intsL
    dsimp only
    rw [unI_ints]
  unfold c_sortedA orC
  rw [q]
theorem o_int : c_int [.int i] = some (.im (.int i)) := rfl
theorem o_max2 : c_max2 [.int i, .int j] = some (.im (.int (max i j))) := n_max2
theorem o_min2 : c_min2 [.int i, .int j] = some (.im (.int (min i j))) := n_min2
def rngO (i j : Int) : Option (List Int) := if (rgC i && rgC j) = true then some ((List.range (j - i).toNat).map fun (k : Nat) => i + (k : Int)) else none
def rng1O (j : Int) : Option (List Int) := if rgC j = true then some ((List.range j.toNat).map fun (k : Nat) => (k : Int)) else none
def rgLO (i j : Int) : Option (List Int) := if rgOkB i j = true then some ((List.range (j - i).toNat).map fun (k : Nat) => i + (k : Int)) else none
def repO (l : List α) (k : Int) : Option (List α) := if (okLen l.length && (decide (-9223372036854775808 ≤ k ∧ k < 9223372036854775808) && okLen (l.length * k.toNat))) = true then some (List.replicate k.toNat l).flatten else none
def enumL (l : List α) : List (Int × α) := (List.range l.length).zipWith (fun (i : Nat) a => ((i : Int), a)) l
theorem enum_typed : enumD (l.map f) = (enumL l).map (p2 PyData.int f) := by
  unfold enumD enumL
  rw [List.length_map, List.map_zipWith, List.zipWith_map_right]
def lcO {γ : Type} (p : α → Option Bool) (g : α → Option γ) : List α → Option (List γ)
  | [] => some []
  | a :: l => (p a).bind fun b => if b = true then (g a).bind fun c => (lcO p g l).bind fun cs => some (c :: cs) else lcO p g l
def lcC {γ : Type} (p : α → Option Bool) (g : α → Option γ) (l : List α) : Option (List γ) := if l.length ≤ 16777216 then lcO p g l else none
def andO (a : Bool) (o : Option Bool) : Option Bool := if a = true then o else some false
def orO (a : Bool) (o : Option Bool) : Option Bool := if a = true then some true else o
def putO (l : List α) (i : Int) (a : α) : Option (List α) := (ixN l.length i).bind fun j => some (l.set j a)
def appO (l : List α) (a : α) : Option (List α) := if l.length + 1 ≤ 16777216 then some (l ++ [a]) else none
end
section
variable {x y z : Fe} {c d : Ft} {e e1 e2 e3 : Ev} {r r1 r2 r3 : Rs} {a b : PyData} {ds : List PyData} {fa fb : Fa}
theorem binX {φ : PyData → PyData → Option Rs} (h1 : x e = some (r1, e1)) (h2 : y e1 = some (r2, e2)) (l1 : lookR e2 (frzR r1) = some a) (l2 : lookR e2 (frzR r2) = some b) (h : φ a b = some r) : x_bin φ x y e = some (r, e2) := by
  rw [r_x_bin, r_two, h1]
  simp only [h2, look2, l1, l2, h]
theorem chX {φ ψ : PyData → PyData → Option Rs} {dc : PyData} {p q : Bool} (h1 : x e = some (r1, e1)) (h2 : y e1 = some (r2, e2)) (h3 : z e2 = some (r3, e2)) (l1 : lookR e2 (frzR r1) = some a) (l2 : lookR e2 (frzR r2) = some b) (l3 : lookR e2 (frzR r3) = some dc)
    (hp : φ a b = some (.im (.bool p))) (hq : ψ b dc = some (.im (.bool q))) : x_chain φ ψ x y z e = some (.im (.bool (p && q)), e2) := by
  rw [r_x_chain, r_two, h1]
  simp only [h2, look2, l1, l2, hp]
  cases p with
  | false => rfl
  | true => simp only [h3, l2, l3, hq, Bool.true_and]
theorem d0 : argsD a_nil e = some ([], e) := rfl
theorem dX (h1 : x e = some (r, e1)) (h2 : argsD fa e1 = some (ds, e2)) (l1 : lookR e2 (frzR r) = some a) : argsD (a_cons x fa) e = some (a :: ds, e2) := by
  rw [r_argsD] at h2 ⊢
  rw [r_a_cons, h1]
  dsimp only
  cases z : fa e1 with
  | none => rw [z] at h2; cases h2
  | some p =>
    obtain ⟨rs, e3⟩ := p
    rw [z] at h2
    dsimp only at h2 ⊢
    cases y : lookAll e3 rs with
    | none => rw [y] at h2; cases h2
    | some es =>
      rw [y] at h2
      cases h2
      rw [n_lookAll1, l1]
      dsimp only
      rw [y]
theorem cbX {φ : List PyData → Option Rs} (h : argsD fa e = some (ds, e1)) (k : φ ds = some r) : x_cb φ fa e = some (r, e1) := by
  rw [r_x_cb, h]
  simp only [k]
theorem isX {T : Ty} {b : Bool} (h1 : x e = some (r, e1)) (l1 : lookR e1 (frzR r) = some a) (k : isD T a = some b) : x_isi T x e = some (.im (.bool b), e1) := by
  rw [r_x_isi, h1]
  simp only [l1, k]
theorem lstX (h : argsI fa e = some (ds, e1)) (hl : ds.length ≤ 16777216) : x_lst fa e = some (.ac ds, e1) := by
  rw [r_x_lst, h]
  dsimp only
  rw [if_pos (okLen_yes hl)]
theorem notX {b : Bool} (h : x e = some (.im (.bool b), e1)) : x_not x e = some (.im (.bool (!b)), e1) := by
  rw [r_x_not, h]
theorem andX {p q : Bool} {o : Option Bool} (h : x e = some (.im (.bool p), e1)) (k : andO p o = some q) (hy : p = true → ∀ q', o = some q' → y e1 = some (.im (.bool q'), e1)) : x_and x y e = some (.im (.bool q), e1) := by
  rw [r_x_and, h]
  cases p with
  | false => cases k; rfl
  | true => exact hy rfl q k
theorem orX {p q : Bool} {o : Option Bool} (h : x e = some (.im (.bool p), e1)) (k : orO p o = some q) (hy : p = false → ∀ q', o = some q' → y e1 = some (.im (.bool q'), e1)) : x_or x y e = some (.im (.bool q), e1) := by
  rw [r_x_or, h]
  cases p with
  | true => cases k; rfl
  | false => exact hy rfl q k
theorem tandX {p q : Bool} {o : Option Bool} (h : c e = some (p, e1)) (k : andO p o = some q) (hy : p = true → ∀ q', o = some q' → d e1 = some (q', e1)) : t_and c d e = some (q, e1) := by
  rw [r_t_and, h]
  cases p with
  | false => cases k; rfl
  | true => exact hy rfl q k
theorem torX {p q : Bool} {o : Option Bool} (h : c e = some (p, e1)) (k : orO p o = some q) (hy : p = false → ∀ q', o = some q' → d e1 = some (q', e1)) : t_or c d e = some (q, e1) := by
  rw [r_t_or, h]
  cases p with
  | true => cases k; rfl
  | false => exact hy rfl q k
end
section
variable {α : Type} {f : α → PyData} {x y z : Fe} {e e1 e2 e3 : Ev} {r : Rs} {i j k : Int} {l : List α} {fa : Fa}
theorem cutLX {lo hi : Option Int} {fl fh : Fo} (h : x e = some (r, e1)) (h1 : fl e1 = some (lo, e2)) (h2 : fh e2 = some (hi, e3)) (hl : lookR e3 (frzR r) = some (ls f l)) : x_sl x fl fh e = some (.ac ((cutD l lo hi).map f), e3) := by
  rw [r_x_sl, h]
  simp only [h1, h2, hl, sliced, cut_map]
theorem oA (h : x e = some (.im (.int i), e1)) : o_at x e = some (some i, e1) := by
  rw [r_o_at, h]
theorem oN : o_no e = some (none, e) := rfl
theorem repX {ds : List α} {out : List α} (h : argsI fa e = some (ds.map f, e1)) (h2 : x e1 = some (.im (.int k), e2)) (hk : repO ds k = some out) : x_rep fa x e = some (.ac (out.map f), e2) := by
  unfold repO at hk
  rw [r_x_rep, h]
  dsimp only
  rw [h2]
  dsimp only
  rw [List.length_map]
  by_cases z : (okLen ds.length && (decide (-9223372036854775808 ≤ k ∧ k < 9223372036854775808) && okLen (ds.length * k.toNat))) = true
  · rw [if_pos z] at hk ⊢
    cases hk
    rw [List.map_flatten, List.map_replicate]
  · rw [if_neg z] at hk
    cases hk
theorem seqTX (h : x e = some (.im (tp f l), e1)) : i_seq x e = some (l.map f, e1) := iseqT h
theorem seqLX (h : x e = some (.im (ls f l), e1)) : i_seq x e = some (l.map f, e1) := iseqL h
theorem seqAX (h : x e = some (.ac (l.map f), e1)) : i_seq x e = some (l.map f, e1) := iseqA h
theorem revI (h : i_seq x e = some (l.map f, e1)) : i_rev x e = some (l.reverse.map f, e1) := by
  rw [r_i_rev, h]
  simp only [List.map_reverse]
theorem enumI (h : i_seq x e = some (l.map f, e1)) : i_enum x e = some ((enumL l).map (p2 PyData.int f), e1) := by
  rw [r_i_enum, h]
  dsimp only
  rw [enum_typed]
theorem rng_typed (n : Nat) : rngD i n 1 = ((List.range n).map fun (k : Nat) => i + (k : Int)).map PyData.int := by
  unfold rngD
  rw [List.map_map]
  refine List.map_congr_left fun k _ => ?_
  show PyData.int (i + (k : Int) * 1) = .int (i + k)
  rw [Int.mul_one]
theorem rng2I {is : List Int} (h : x e = some (.im (.int i), e1)) (h2 : y e1 = some (.im (.int j), e2)) (k : rngO i j = some is) : i_rng2 x y e = some (is.map PyData.int, e2) := by
  rw [r_i_rng2, h]
  dsimp only
  rw [h2]
  dsimp only
  unfold rngO at k
  by_cases z : (rgC i && rgC j) = true
  · rw [if_pos z] at k ⊢
    cases k
    rw [rng_typed]
  · rw [if_neg z] at k
    cases k
theorem rng1I {is : List Int} (h : x e = some (.im (.int j), e1)) (k : rng1O j = some is) : i_rng1 x e = some (is.map PyData.int, e1) := by
  rw [r_i_rng1, h]
  dsimp only
  unfold rng1O at k
  by_cases z : rgC j = true
  · rw [if_pos z] at k ⊢
    cases k
    rw [rng_typed]
    refine congrArg some (Prod.ext ?_ rfl)
    dsimp only
    congr 1
    refine List.map_congr_left fun k _ => ?_
    omega
  · rw [if_neg z] at k
    cases k
theorem rgL_typed : rgL i j = ((List.range (j - i).toNat).map fun (k : Nat) => i + (k : Int)).map PyData.int := by
  unfold rgL
  rw [List.map_map]
  rfl
theorem rg1X (h : x e = some (.im (.int j), e1)) : g_rg1 x e = some (0, j, e1) := by
  rw [r_g_rg1, h]
theorem trgX {g : Fg} {is : List Int} (h : g e = some (i, j, e1)) (k : rgLO i j = some is) : x_trg g e = some (.im (tp PyData.int is), e1) := by
  rw [r_x_trg, h]
  dsimp only
  unfold rgLO at k
  by_cases z : rgOkB i j = true
  · rw [if_pos z] at k ⊢
    cases k
    rw [rgL_typed]
  · rw [if_neg z] at k
    cases k
theorem lrgX {g : Fg} {is : List Int} (h : g e = some (i, j, e1)) (k : rgLO i j = some is) : x_lrg g e = some (.ac (is.map PyData.int), e1) := by
  rw [r_x_lrg, h]
  dsimp only
  unfold rgLO at k
  by_cases z : rgOkB i j = true
  · rw [if_pos z] at k ⊢
    cases k
    rw [rgL_typed]
  · rw [if_neg z] at k
    cases k
end
theorem o_inL {x : Int} {l : List Int} : p_in (.int x) (ls PyData.int l) = some (.im (.bool (decide (x ∈ l)))) := e_in x l
theorem o_notinL {x : Int} {l : List Int} : p_notin (.int x) (ls PyData.int l) = some (.im (.bool (!decide (x ∈ l)))) := e_notin x l
theorem o_notinT {x : Int} {l : List Int} : p_notin (.int x) (tp PyData.int l) = some (.im (.bool (!decide (x ∈ l)))) := by
  have h := e_notin x l
  unfold p_notin p_inB at h ⊢
  exact h
section
variable {X β : Type} {enc : X → PyData} {encB : β → PyData} {fi : Fi} {γ : PyData → Ev → Option Ev} {tst : Ft} {fe : Fe} {vs : List Nat} {e e1 : Ev}
theorem lcGo_typed (p : X → Option Bool) (g : X → Option β) (w : Ev) : ∀ (l : List X) (out : List β) (acc : List PyData), lcO p g l = some out → acc.length + l.length ≤ 16777216 →
    (∀ a ∈ l, ∃ a1, γ (enc a) w = some a1 ∧ wipeE a1 vs = w ∧ (∀ b, p a = some b → tst a1 = some (b, a1)) ∧ (p a = some true → ∀ c, g a = some c → ∃ z, fe a1 = some z ∧ imR (frzR z.1) = some (encB c) ∧ z.2 = a1)) →
    lcGo γ tst fe vs (l.map enc) w acc = some (acc ++ out.map encB, w)
  | [], out, acc, h, _, _ => by
    cases h
    show some (acc, _) = some (acc ++ [], _)
    rw [List.append_nil]
  | a :: l, out, acc, h, hl, k => by
    obtain ⟨b, hb, h⟩ := bnd h
    obtain ⟨a1, k1, k2, k3, k4⟩ := k a List.mem_cons_self
    rw [List.length_cons] at hl
    rw [List.map_cons]
    simp only [lcGo, k1, k3 b hb]
    cases b with
    | false =>
      rw [if_neg Bool.false_ne_true] at h
      simp only [k2]
      exact lcGo_typed p g w l out acc h (by omega) fun x m => k x (List.mem_cons_of_mem _ m)
    | true =>
      rw [if_pos rfl] at h
      obtain ⟨c, hc, h⟩ := bnd h
      obtain ⟨cs, hcs, h⟩ := bnd h
      cases h
      obtain ⟨⟨r, e3⟩, z1, z2, z3⟩ := k4 hb c hc
      simp only [z1, z2]
      dsimp only at z3
      rw [if_pos (okLen_yes (by omega)), z3, k2, lcGo_typed p g w l cs _ hcs (by simp only [List.length_append, List.length_cons, List.length_nil]; omega) fun x m => k x (List.mem_cons_of_mem _ m)]
      rw [List.map_cons, List.append_assoc]
      rfl
theorem lcX {items : List X} {p : X → Option Bool} {g : X → Option β} {out : List β} (h : lcC p g items = some out) (hi : fi e = some (items.map enc, e1)) (hn : noAc e1 vs = true)
    (k : ∀ a ∈ items, ∃ a1, γ (enc a) (wipeE e1 vs) = some a1 ∧ wipeE a1 vs = wipeE e1 vs ∧ (∀ b, p a = some b → tst a1 = some (b, a1)) ∧ (p a = some true → ∀ c, g a = some c → ∃ z, fe a1 = some z ∧ imR (frzR z.1) = some (encB c) ∧ z.2 = a1)) :
    x_lc fi γ tst fe vs e = some (.ac (out.map encB), e1) := by
  unfold lcC at h
  by_cases z : items.length ≤ 16777216
  · rw [if_pos z] at h
    unfold x_lc
    simp only [hi]
    rw [if_pos hn, lcGo_typed p g _ items out [] h (by simpa using z) k]
    simp only [rest_wipe, List.nil_append]
  · rw [if_neg z] at h
    cases h
end
section
open Classical
variable {ρ : Type}
noncomputable def chI (enc : ρ → PyData) (o : Option Rs) : Option ρ := if h : ∃ r, o = some (.im (enc r)) then some (choose h) else none
theorem chI_ok {enc : ρ → PyData} {o : Option Rs} {r : ρ} (h : chI enc o = some r) : o = some (.im (enc r)) := by
  unfold chI at h
  by_cases z : ∃ r, o = some (.im (enc r))
  · rw [dif_pos z] at h
    cases h
    exact choose_spec z
  · rw [dif_neg z] at h
    cases h
/-- what it is, where the data tell it -/
theorem chI_eq {enc : ρ → PyData} {o : Option Rs} {r : ρ} (inj : ∀ a b, enc a = enc b → a = b) (h : o = some (.im (enc r))) : chI enc o = some r := by
  have z : ∃ r, o = some (.im (enc r)) := ⟨r, h⟩
  unfold chI
  rw [dif_pos z]
  have q := h.symm.trans (choose_spec z)
  injection q with q
  injection q with q
  rw [inj _ _ q]
end
end DL
namespace DL
open L2 PySem PySem.Spec PySem.W PyProof.Rows
inductive Lp (σ ρ : Type) where
  | nx (s : σ) | bk (s : σ) | rt (r : ρ)
def PK {σ ρ : Type} (inv : σ → Ev → Prop) (rt : ρ → Rs → Ev → Prop) : Lp σ ρ → Fl → Prop
  | .nx s, .nx e => inv s e
  | .nx s, .ct e => inv s e
  | .bk s, .bk e => inv s e
  | .rt r, .rt r' e => rt r r' e
  | _, _ => False
def SK {σ : Type} (inv : σ → Ev → Prop) : σ → Fl → Prop
  | s, .nx e => inv s e
  | s, .ct e => inv s e
  | _, _ => False
def RK {ρ : Type} (rt : ρ → Rs → Ev → Prop) : ρ → Fl → Prop
  | r, .rt r' e => rt r r' e
  | r, .nx e => rt r (.im .none) e
  | _, _ => False
def forG {α σ ρ : Type} (body : α → σ → Option (Lp σ ρ)) : List α → σ → Option (Lp σ ρ)
  | [], s => some (.nx s)
  | a :: l, s => (body a s).bind fun r => match r with
    | .nx s' => forG body l s'
    | .bk s' => some (.nx s')
    | .rt r => some (.rt r)
def forS {α σ : Type} (body : α → σ → Option σ) : List α → σ → Option σ
  | [], s => some s
  | a :: l, s => (body a s).bind fun s' => forS body l s'
def whS {σ : Type} (c : σ → Option Bool) (body : σ → Option σ) : Nat → σ → Option σ
  | 0, _ => none
  | n + 1, s => (c s).bind fun b => if b = true then (body s).bind fun s' => whS c body n s' else some s
def thenL {σ ρ τ : Type} (o : Option (Lp σ ρ)) (rt : ρ → Option τ) (k : σ → Option τ) : Option τ := o.bind fun l => match l with
  | .nx s => k s
  | .bk s => k s
  | .rt r => rt r
theorem thenL_nx {σ ρ τ : Type} {o : Option (Lp σ ρ)} {s : σ} {rt : ρ → Option τ} {k : σ → Option τ} (h : o = some (.nx s)) : thenL o rt k = k s := by
  rw [h]; rfl
theorem thenL_rt {σ ρ τ : Type} {o : Option (Lp σ ρ)} {r : ρ} {rt : ρ → Option τ} {k : σ → Option τ} (h : o = some (.rt r)) : thenL o rt k = rt r := by
  rw [h]; rfl
section
variable {f g : Fs} {e e1 e2 : Ev} {Q : Fl → Prop} {x y : Fe} {i : Nat} {ds : List PyData}
theorem t_set {α : Type} {f : α → PyData} {v w : α} (hw : some v = some w) (h : x e = some (.im (f v), e1)) (ok : okS [i] e1 = true) (q : Q (.nx (e1.set i (some (.im (f w)))))) : wS (s_setF i x) e Q := by
  cases hw
  exact w_setI h ok q
theorem t_setL {α : Type} {f : α → PyData} {v w : List α} (hw : some v = some w) (h : x e = some (.ac (v.map f), e1)) (ok : okS [i] e1 = true) (q : Q (.nx (e1.set i (some (.im (ls f w)))))) : wS (s_setF i x) e Q := by
  cases hw
  exact w_setL h ok q
theorem t_setA {α : Type} {f : α → PyData} {v w : List α} (hw : some v = some w) (h : x e = some (.ac (v.map f), e1)) (ok : okS [i] e1 = true) (q : Q (.nx (e1.set i (some (.ac (w.map f)))))) : wS (s_set i x) e Q := by
  cases hw
  exact w_setA h ok q
theorem t_app {α : Type} {f : α → PyData} {l m : List α} {a : α} (hm : appO l a = some m) (h : ∃ r, x e = some (r, e1) ∧ imR (frzR r) = some (f a)) (h0 : isAc e[i]? = true) (hi : e1[i]? = some (some (.ac (l.map f)))) (q : Q (.nx (e1.set i (some (.ac (m.map f)))))) : wS (s_drop (x_app i x)) e Q := by
  unfold appO at hm
  by_cases z : l.length + 1 ≤ 16777216
  · rw [if_pos z] at hm
    cases hm
    obtain ⟨r, h, hr⟩ := h
    refine w_drop (r := .im .none) ?_ q
    rw [r_x_app, if_pos h0, h]
    simp only [hr, hi]
    rw [if_pos (okLen_yes (by rw [List.length_map]; exact z)), List.map_append]
    rfl
  · rw [if_neg z] at hm
    cases hm
theorem t_put {α : Type} {f : α → PyData} {l m : List α} {k : Int} {a : α} (hm : putO l k a = some m) (h : ∃ r, x e = some (r, e1) ∧ imR (frzR r) = some (f a)) (h0 : isAc e1[i]? = true) (hk : y e1 = some (.im (.int k), e2)) (hi : e2[i]? = some (some (.ac (l.map f)))) (q : Q (.nx (e2.set i (some (.ac (m.map f)))))) : wS (s_put i x y) e Q := by
  obtain ⟨r, h, hr⟩ := h
  obtain ⟨j, hj, hm⟩ := bnd hm
  cases hm
  refine ⟨_, ?_, q⟩
  rw [r_s_put, h]
  simp only [h0, hr, hk, hi, if_true]
  rw [List.length_map, hj]
  simp only [List.map_set]
def setO (l : List Int) : Option (List Int) := if l.length + 1 < 4096 then some l else none
def JK {σ τ : Type} (inv : σ → Ev → Prop) (seg : σ → Option τ) (t : τ) (Q : Fl → Prop) : Fl → Prop
  | .nx e => ∃ s, inv s e ∧ seg s = some t
  | fl => Q fl
theorem t_join {σ τ : Type} (inv : σ → Ev → Prop) (seg : σ → Option τ) {t : τ} (K : ∀ s e, inv s e → seg s = some t → wS g e Q) (h : wS f e (JK inv seg t Q)) : wS (s_seq f g) e Q := by
  obtain ⟨fl, h1, h2⟩ := h
  refine w_seq ⟨fl, h1, ?_⟩
  cases fl with
  | nx e => obtain ⟨s, h3, h4⟩ := h2; exact K s e h3 h4
  | bk e => exact h2
  | ct e => exact h2
  | rt r e => exact h2
end
section
variable {fi : Fi} {γ : PyData → Ev → Option Ev} {S : List Nat} {fb : Fs} {e e1 : Ev} {Q : Fl → Prop}
theorem t_forG {X σ ρ : Type} (enc : X → PyData) (items : List X) (body : X → σ → Option (Lp σ ρ)) (inv : σ → Ev → Prop) (rt : ρ → Rs → Ev → Prop) {s0 : σ} {l : Lp σ ρ} (hi : fi e = some (items.map enc, e1)) (h0 : inv s0 e1) (h : forG body items s0 = some l)
    (hb : ∀ x s l, body x s = some l → ∀ e, inv s e → okS S e = true ∧ ∃ e2, γ (enc x) e = some e2 ∧ wS fb e2 (PK inv rt l))
    (q1 : ∀ s, l = .nx s → ∀ e, inv s e → Q (.nx e)) (q2 : ∀ r, l = .rt r → ∀ r' e, rt r r' e → Q (.rt r' e)) : wS (s_for fi γ S fb) e Q := by
  have go : ∀ (items : List X) (s0 : σ) (e : Ev), inv s0 e → forG body items s0 = some l → ∃ fl, forGo γ S fb (items.map enc) e = some fl ∧ Q fl := by
    intro items
    induction items with
    | nil =>
      intro s0 e h0 h
      cases h
      exact ⟨_, rfl, q1 s0 rfl e h0⟩
    | cons x items ih =>
      intro s0 e h0 h
      obtain ⟨l1, hl1, h⟩ := bnd h
      obtain ⟨k1, e2, k2, fl, k3, k4⟩ := hb x s0 l1 hl1 e h0
      rw [List.map_cons]
      simp only [forGo, k1, k2, k3, if_true]
      cases l1 with
      | nx s1 =>
        cases fl with
        | nx e3 => exact ih s1 e3 k4 h
        | ct e3 => exact ih s1 e3 k4 h
        | bk e3 => exact k4.elim
        | rt r e3 => exact k4.elim
      | bk s1 =>
        cases h
        cases fl with
        | nx e3 => exact k4.elim
        | ct e3 => exact k4.elim
        | bk e3 => exact ⟨_, rfl, q1 s1 rfl e3 k4⟩
        | rt r e3 => exact k4.elim
      | rt r =>
        cases h
        cases fl with
        | nx e3 => exact k4.elim
        | ct e3 => exact k4.elim
        | bk e3 => exact k4.elim
        | rt r' e3 => exact ⟨_, rfl, q2 r rfl r' e3 k4⟩
  obtain ⟨fl, h1, h2⟩ := go items s0 e1 h0 h
  exact ⟨fl, sf hi h1, h2⟩
theorem t_forS {X σ : Type} (enc : X → PyData) (items : List X) (body : X → σ → Option σ) (inv : σ → Ev → Prop) {s0 s : σ} (hi : fi e = some (items.map enc, e1)) (h0 : inv s0 e1) (h : forS body items s0 = some s)
    (hb : ∀ x s s', body x s = some s' → ∀ e, inv s e → okS S e = true ∧ ∃ e2, γ (enc x) e = some e2 ∧ wS fb e2 (SK inv s'))
    (q1 : ∀ e, inv s e → Q (.nx e)) : wS (s_for fi γ S fb) e Q := by
  have go : ∀ (items : List X) (s0 : σ) (e : Ev), inv s0 e → forS body items s0 = some s → ∃ fl, forGo γ S fb (items.map enc) e = some fl ∧ Q fl := by
    intro items
    induction items with
    | nil =>
      intro s0 e h0 h
      cases h
      exact ⟨_, rfl, q1 e h0⟩
    | cons x items ih =>
      intro s0 e h0 h
      obtain ⟨l1, hl1, h⟩ := bnd h
      obtain ⟨k1, e2, k2, fl, k3, k4⟩ := hb x s0 l1 hl1 e h0
      rw [List.map_cons]
      simp only [forGo, k1, k2, k3, if_true]
      cases fl with
      | nx e3 => exact ih l1 e3 k4 h
      | ct e3 => exact ih l1 e3 k4 h
      | bk e3 => exact k4.elim
      | rt r e3 => exact k4.elim
  obtain ⟨fl, h1, h2⟩ := go items s0 e1 h0 h
  exact ⟨fl, sf hi h1, h2⟩
theorem t_whS {σ : Type} {n : Ev → Nat} {tst : Ft} (c : σ → Option Bool) (body : σ → Option σ) (inv : σ → Ev → Prop) {s0 s : σ} {N : Nat} (hN : n e = N) (h0 : inv s0 e) (h : whS c body N s0 = some s)
    (hc : ∀ s b, c s = some b → ∀ e, inv s e → tst e = some (b, e))
    (hb : ∀ s s', body s = some s' → ∀ e, inv s e → wS fb e (SK inv s'))
    (q1 : ∀ e, inv s e → Q (.nx e)) : wS (s_while n tst fb) e Q := by
  have go : ∀ (N : Nat) (s0 : σ) (e : Ev), inv s0 e → whS c body N s0 = some s → ∃ fl, whGo tst fb N e = some fl ∧ Q fl := by
    intro N
    induction N with
    | zero =>
      intro s0 e h0 h
      cases h
    | succ N ih =>
      intro s0 e h0 h
      obtain ⟨b, hb1, h⟩ := bnd h
      have k0 := hc s0 b hb1 e h0
      cases b with
      | false =>
        cases h
        exact ⟨_, by simp only [whGo, k0], q1 e h0⟩
      | true =>
        rw [if_pos rfl] at h
        obtain ⟨l1, hl1, h⟩ := bnd h
        obtain ⟨fl, k3, k4⟩ := hb s0 l1 hl1 e h0
        simp only [whGo, k0, k3]
        cases fl with
        | nx e3 => exact ih l1 e3 k4 h
        | ct e3 => exact ih l1 e3 k4 h
        | bk e3 => exact k4.elim
        | rt r e3 => exact k4.elim
  unfold wS s_while
  rw [hN]
  exact go N s0 e h0 h
end
section
variable {x y : Fe} {c d : Ft} {e e1 e2 : Ev} {p q : Bool} {i : Nat} {ds : List PyData}
theorem vB (h : e[i]? = some (some (.ac ds))) : x_var i e = some (.br i, e) := by
  rw [r_x_var, h]
theorem andXt (h : x e = some (.im (.bool p), e1)) (k : y e1 = some (.im (.bool q), e1)) : x_and x y e = some (.im (.bool (p && q)), e1) := by
  rw [r_x_and, h]
  cases p with
  | false => rfl
  | true => exact k
theorem tandXt (h : c e = some (p, e1)) (k : d e1 = some (q, e1)) : t_and c d e = some (p && q, e1) := by
  rw [r_t_and, h]
  cases p with
  | false => rfl
  | true => exact k
theorem torXt (h : c e = some (p, e1)) (k : d e1 = some (q, e1)) : t_or c d e = some (p || q, e1) := by
  rw [r_t_or, h]
  cases p with
  | false => exact k
  | true => rfl
end
section
variable {ρ : Type} {n nl : Nat} {g : Fs} {ds : List PyData}
def rtI (enc : ρ → PyData) (r : ρ) (r' : Rs) (e : Ev) : Prop := finR r' e = some (.im (enc r))
def rtA (enc : ρ → PyData) (r : List ρ) (r' : Rs) (e : Ev) : Prop := finR r' e = some (.ac (r.map enc))
theorem t_fnI {enc : ρ → PyData} {r : ρ} (hl : ds.length = n) (h : wS g (env0 ds nl) (RK (rtI enc) r)) : runF n nl g ds = some (.im (enc r)) := by
  obtain ⟨fl, h1, h2⟩ := h
  unfold runF
  rw [if_pos hl, h1]
  cases fl with
  | nx e => exact h2
  | bk e => exact h2.elim
  | ct e => exact h2.elim
  | rt r e => exact h2
theorem t_fnA {enc : ρ → PyData} {r : List ρ} (hl : ds.length = n) (h : wS g (env0 ds nl) (RK (rtA enc) r)) : runF n nl g ds = some (.ac (r.map enc)) := by
  obtain ⟨fl, h1, h2⟩ := h
  unfold runF
  rw [if_pos hl, h1]
  cases fl with
  | nx e => exact h2
  | bk e => exact h2.elim
  | ct e => exact h2.elim
  | rt r e => exact h2
end
end DL
namespace DL
open L2 PySem PySem.Spec PySem.W PyProof.Rows
end DL
namespace DL
open PySem PySem.Spec PyProof.Rows L2
structure Xc where
  c : Str
  fs : List (Str × PyData)
abbrev Ex (α : Type) := α ⊕ (Xc × Ev)
abbrev Fsx := Ev → Option (Ex Fl)
abbrev Fex := Ev → Option (Ex (Rs × Ev))
/-- its dict -/
def FsAt (K : PySem.W.Frag) (G : Hp) (fs : List (Str × V)) (ds : List (Str × PyData)) : Prop := fs.map (·.1) = ds.map (·.1) ∧ DpAll K G (fs.map (·.2)) (ds.map (·.2))
def XcAt (K : PySem.W.Frag) (mg : Str → Option Value) (G : Hp) (cls : Value) (d : Option Addr) (x : Xc) : Prop := ∃ (C dd : Addr) (fs : List (Str × V)), mg x.c = some (.ref C) ∧ cls = .ref C ∧ d = some dd ∧ G dd = some (.xd fs) ∧ FsAt K G fs x.fs
theorem FsAt.same {K : PySem.W.Frag} {G G' : Hp} {fs : List (Str × V)} {ds : List (Str × PyData)} (h : FsAt K G fs ds) (s : Same G G') : FsAt K G' fs ds := ⟨h.1, dpAll_same s h.2⟩
theorem XcAt.same {K : PySem.W.Frag} {mg : Str → Option Value} {G G' : Hp} {cls : Value} {d : Option Addr} {x : Xc} (h : XcAt K mg G cls d x) (s : Same G G') : XcAt K mg G' cls d x := by
  obtain ⟨C, dd, fs, h1, h2, h3, h4, h5⟩ := h
  exact ⟨C, dd, fs, h1, h2, h3, s dd _ h4, h5.same s⟩
def PoX (K : PySem.W.Frag) (mg : Str → Option Value) (m : Option Addr) (E : Ef) (G0 G : Hp) (D : Ends) (W : WX) : Ex Fl → Prop
  | .inl fl => PoS K m E G0 G D fl
  | .inr (x, e) => ∀ cls d G' σ H, Same G G' → Rz K m E G0 G' e σ H → XcAt K mg G' cls d x → W cls d σ H
theorem PoX.aft {K : PySem.W.Frag} {mg : Str → Option Value} {m : Option Addr} {E : Ef} {G0 G G' : Hp} {D : Ends} {W : WX} {o : Ex Fl} (P : PoX K mg m E G0 G D W o) (s : Same G G') : PoX K mg m E G0 G' D W o := by
  cases o with
  | inl fl => exact PoS.aft P s
  | inr y => exact fun cls d G2 σ H s2 R X => P cls d G2 σ H (s.trans s2) R X
/-- the weakest reading -/
def tsX (K : PySem.W.Frag) (mg : Str → Option Value) (f : Fsx) (W : WX) : TS := fun D σ H => ∃ m E G0 G e o, Rz K m E G0 G e σ H ∧ f e = some o ∧ PoX K mg m E G0 G D W o
structure SDX (X : Cx) (W : WX) (st : Stmt) (f : Fsx) : Prop where
  run : PS X st (tsX X.K X.mg f W)
structure SsDX (X : Cx) (W : WX) (sts : List Stmt) (f : Fsx) : Prop where
  run : PSs X sts (tsX X.K X.mg f W)
def PoE (K : PySem.W.Frag) (mg : Str → Option Value) (m : Option Addr) (E : Ef) (G0 : Hp) (σ : St) (G H : Hp) (e : Ev) (W : WX) (Q : VK) : Ex (Rs × Ev) → Prop
  | .inl (r, e') => Po K m E G0 σ G H e r e' Q
  | .inr (x, e') => ∀ cls d G' H', Rl K m E G0 G' e' σ H' → Stp σ G H e G' H' e' → XcAt K mg G' cls d x → W cls d σ H'
def teX (K : PySem.W.Frag) (mg : Str → Option Value) (f : Fex) (W : WX) : TE := fun σ H Q => ∃ m E G0 G e o, Rl K m E G0 G e σ H ∧ f e = some o ∧ PoE K mg m E G0 σ G H e W Q o
structure EDX (X : Cx) (W : WX) (x : Expr) (f : Fex) : Prop where
  run : PE X x (teX X.K X.mg f W)
theorem ps_imp {X : Cx} {st : Stmt} {t u : TS} (h : PS X st t) (k : ∀ D σ H, u D σ H → t D σ H) : PS X st u := ⟨fun pins s σ H D I q => h.run pins s σ H D I (k D σ H q)⟩
theorem pss_imp {X : Cx} {st : List Stmt} {t u : TS} (h : PSs X st t) (k : ∀ D σ H, u D σ H → t D σ H) : PSs X st u := ⟨fun pins s σ H D I q => h.run pins s σ H D I (k D σ H q)⟩
theorem pe_imp {X : Cx} {x : Expr} {t u : TE} (h : PE X x t) (k : ∀ σ H Q, u σ H Q → t σ H Q) : PE X x u := ⟨fun pins s σ H Q I q => h.run pins s σ H Q I (k σ H Q q)⟩
section
variable {X : Cx} {W : WX} {st : Stmt} {rest : List Stmt} {f g : Fsx} {fs : Fs} {pos : Pos} {a : Expr} {fe : Fe}
def xS (f : Fs) : Fsx := fun e => (f e).map .inl
def xE (f : Fe) : Fex := fun e => (f e).map .inl
theorem SD.x (h : SD X st fs) : SDX X W st (xS fs) := by
  obtain ⟨t, p, k⟩ := h
  refine ⟨ps_imp p fun D σ H ⟨m, E, G0, G, e, o, R, q, P⟩ => ?_⟩
  unfold xS at q
  cases h1 : fs e with
  | none => rw [h1] at q; cases q
  | some fl =>
    rw [h1] at q
    cases q
    exact k m E G0 G e σ H fl D R h1 P
theorem SsD.x {sts : List Stmt} (h : SsD X sts fs) : SsDX X W sts (xS fs) := by
  obtain ⟨t, p, k⟩ := h
  refine ⟨pss_imp p fun D σ H ⟨m, E, G0, G, e, o, R, q, P⟩ => ?_⟩
  unfold xS at q
  cases h1 : fs e with
  | none => rw [h1] at q; cases q
  | some fl =>
    rw [h1] at q
    cases q
    exact k m E G0 G e σ H fl D R h1 P
theorem ED.x (h : ED X a fe) : EDX X W a (xE fe) := by
  obtain ⟨t, p, k⟩ := h
  refine ⟨pe_imp p fun σ H Q ⟨m, E, G0, G, e, o, R, q, P⟩ => ?_⟩
  unfold xE at q
  cases h1 : fe e with
  | none => rw [h1] at q; cases q
  | some z =>
    obtain ⟨r, e'⟩ := z
    rw [h1] at q
    cases q
    exact k m E G0 G e σ H r e' Q R h1 P
def x_seq (f g : Fsx) : Fsx := fun e => match f e with
  | some (.inl (.nx e1)) => g e1
  | o => o
theorem ssdx_nil : SsDX X W [] (xS s_nx) := SsD.x ssd_nil
theorem ssdx_cons (h : SDX X W st f) (h2 : SsDX X W rest g) : SsDX X W (st :: rest) (x_seq f g) := by
  refine ⟨pss_imp (pss_cons h.run h2.run) fun D σ H ⟨m, E, G0, G, e, o, R, q, P⟩ => ?_⟩
  unfold x_seq at q
  show tsX X.K X.mg f W { D with nx := tsX X.K X.mg g W D } σ H
  split at q
  · rename_i e1 h1
    exact ⟨m, E, G0, G, e, _, R, h1, fun G' σ' H' s R' => ⟨m, E, G0, G', e1, o, R', q, P.aft s⟩⟩
  · rename_i h1
    refine ⟨m, E, G0, G, e, o, R, q, ?_⟩
    cases o with
    | inl fl =>
      cases fl with
      | nx e1 => exact absurd q (h1 e1)
      | bk e1 => exact P
      | ct e1 => exact P
      | rt r e1 => exact P
    | inr y => exact P
theorem ssdx_one (h : SDX X W st f) : SsDX X W [st] f := by
  refine ⟨pss_imp (pss_one h.run) fun D σ H q => q⟩
def x_ifS (c : Ft) (f g : Fsx) : Fsx := fun e => match c e with
  | some (true, e1) => f e1
  | some (false, e1) => g e1
  | none => none
theorem sdx_if {tst : Expr} {A B : List Stmt} {c : Ft} (hc : TD X tst c) (ha : SsDX X W A f) (hb : SsDX X W B g) : SDX X W (.If tst A B pos) (x_ifS c f g) := by
  obtain ⟨t, p, k⟩ := hc
  refine ⟨ps_imp (ps_if p ha.run hb.run) fun D σ H ⟨m, E, G0, G, e, o, R, q, P⟩ => ?_⟩
  unfold x_ifS at q
  split at q
  · rename_i e1 h1
    refine k m E G0 G e σ H true e1 _ R.r h1 fun G' H' R' S' => ?_
    rw [if_pos rfl]
    exact ⟨m, E, G0, G', e1, o, R.exp R' S', q, P.aft S'.gg⟩
  · rename_i e1 h1
    refine k m E G0 G e σ H false e1 _ R.r h1 fun G' H' R' S' => ?_
    rw [if_neg Bool.false_ne_true]
    exact ⟨m, E, G0, G', e1, o, R.exp R' S', q, P.aft S'.gg⟩
  · cases q
variable {fx : Fex}
def x_drop (f : Fex) : Fsx := fun e => match f e with
  | some (.inl (_, e1)) => some (.inl (.nx e1))
  | some (.inr y) => some (.inr y)
  | none => none
theorem sdx_expr (h : EDX X W a fx) (hs : swapsWith a none pos.line X.env = pure false := by rfl) : SDX X W (.Expr a pos) (x_drop fx) := by
  refine ⟨ps_imp (ps_expr h.run hs) fun D σ H ⟨m, E, G0, G, e, o, R, q, P⟩ => ?_⟩
  unfold x_drop at q
  split at q
  · rename_i r e1 h1
    cases q
    exact ⟨m, E, G0, G, e, _, R.r, h1, fun v G' H' R' S' V N => P G' σ H' S'.gg (R.exp R' S')⟩
  · rename_i y h1
    cases q
    obtain ⟨x, e1⟩ := y
    exact ⟨m, E, G0, G, e, _, R.r, h1, fun cls d G' H' R' S' X' => P cls d G' σ H' S'.gg (R.exp R' S') X'⟩
  · cases q
def x_set (i : Nat) (f : Fex) : Fsx := fun e => match f e with
  | some (.inl (r, e1)) => (s_setF i (fun _ => some (r, e1)) e).map .inl
  | some (.inr y) => some (.inr y)
  | none => none
theorem sdx_set {x : Str} {pos' : Pos} (i : Nat) (hN : X.N.Nodup) (h : EDX X W a fx) (hi : X.N[i]? = some x := by rfl) (hx : Loc X.env.scope x := by first | exact .inl rfl | exact .inr rfl) (hs : swapsWith a (some (.Name x pos')) pos.line X.env = pure false := by rfl)
    (hf : X.fn x = true ∨ X.env.scope.names.lookup x = some .local := by first | exact .inl rfl | exact .inr rfl | assumption) : SDX X W (.Assign [.Name x pos'] a pos) (x_set i fx) := by
  refine ⟨ps_imp (ps_set hN hi hx h.run hs hf) fun D σ H ⟨m, E, G0, G, e, o, R, q, P⟩ => ?_⟩
  unfold x_set at q
  split at q
  · rename_i r e1 h1
    refine ⟨m, E, G0, G, e, _, R.r, h1, fun v G' H' R' S' V N => ?_⟩
    have Rx := R.exp R' S'
    obtain ⟨G2, R2, S2, s2, V2⟩ := R'.freeze S' V N
    have Rx2 := R.exp R2 S2
    rw [r_s_setF] at q
    dsimp only at q
    by_cases ok : okS [i] e1 = true
    · rw [if_pos ok] at q
      cases hr : frzR r with
      | im d =>
        rw [hr] at q V2
        cases q
        exact P G2 _ H' S2.gg (Rx2.setI V2 ok)
      | ac ds => cases r <;> cases hr
      | br j =>
        rw [hr] at q
        cases q
    · rw [if_neg ok] at q
      cases q
  · rename_i y h1
    cases q
    obtain ⟨x, e1⟩ := y
    exact ⟨m, E, G0, G, e, _, R.r, h1, fun cls d G' H' R' S' X' => P cls d G' σ H' S'.gg (R.exp R' S') X'⟩
  · cases q
end
end DL
namespace DL
open PySem PySem.Spec PyProof.Rows L2
abbrev Ro := Rs ⊕ Xc
def spX (K : PySem.W.Frag) (mg : Str → Option Value) (n : Nat) (φ : List PyData → Option Ro) : Sp := fun vs H Q E => ∃ G ds o, Same G H ∧ DpAll K G vs ds ∧ vs.length = n ∧ φ ds = some o ∧
  (∀ r, o = .inl r → ∀ v G' H', Same G G' → Same G' H' → Same H H' → (∀ a, G a = none → H a ≠ none → G' a = none) → VrF K G' H H' v r → Q v H') ∧
  (∀ x, o = .inr x → ∀ cls d G' H', Same G G' → Same G' H' → Same H H' → (∀ a, G a = none → H a ≠ none → G' a = none) → XcAt K mg G' cls d x → E cls d H')
inductive KfX (P : Program) (w : World) (K : PySem.W.Frag) (mg : Str → Option Value) (base : Heap) (k : Nat) (x : Str) (sp : Sp) (dvs : List V) : Prop where
  | kept (at_ : Addr) (fd : FuncData) (names : List Str) (given : List Value) (fn : FnOk P w K mg base (L2N.CX P w) k at_ fd names sp) (here : mg x = some (.ref at_)) (stays : PySem.W.keepIn K (.ref at_) = true) (binds : Binds K fd names given) (vals : Vals dvs given)
def runX (n nl : Nat) (g : Fsx) (ds : List PyData) : Option Ro := if ds.length = n then (match g (env0 ds nl) with
  | some (.inl (.rt r e)) => (finR r e).map .inl
  | some (.inl (.nx _)) => some (.inl (.im .none))
  | some (.inr (x, _)) => some (.inr x)
  | _ => none) else none
theorem runX_len {n nl : Nat} {g : Fsx} : ∀ ds, (runX n nl g ds).isSome = true → ds.length = n := fun ds h => by
  unfold runX at h
  by_cases z : ds.length = n
  · exact z
  · rw [if_neg z] at h
    cases h
section
variable {P : Program} {w : World} {K : PySem.W.Frag} {mg : Str → Option Value} {base : Heap} {x qual : Str} {params : Arguments} {body : List Stmt} {scope : Scope} {dvs : List V} {kws : List (Str × V)} {f : Addr} {fd : FuncData} {N ps : List Str} {k n nl : Nat} {g : Fsx}
theorem fnX (F : FunD K x qual params body scope dvs kws f fd) (S : FnScope N ps scope) (hp : ps.length = n) (hl : n + nl = N.length)
    (hb : ∀ (cdv : Value) (A : Around) (outer : List Env) (s : Shared) (H : Hp) (E : XK), Room k (A.deeper (envOfC qual scope s.heap.objs.size f cdv)) → L2N.Takes (cxOf (L2N.CX P w) P w K mg base N qual scope f cdv A outer s H E) (fun cls d _ H => E cls d H) →
      SsDX (cxOf (L2N.CX P w) P w K mg base N qual scope f cdv A outer s H E) (fun cls d _ H => E cls d H) body g) :
    FnOk P w K mg base (L2N.CX P w) (k + 1) f fd ps (spX K mg n (runX n nl g)) := by
  refine F.ok S (fun vs H Q E h => ?_) fun cdv A outer s H vs Q E hr h => ?_
  · obtain ⟨_, _, _, _, _, h, _⟩ := h
    rw [h, hp]
  · have b := hb cdv A outer s H E hr (L2N.takes_of rfl rfl rfl rfl)
    obtain ⟨G, ds, o, s1, hd, hv, hr2, hQ, hE⟩ := h
    refine ⟨_, b.run, ?_⟩
    have Rz0 : Rz K none (Ef.of H) G G (env0 ds nl) (L2.start N vs) H := rz_start s1 hd (by omega)
    unfold runX at hr2
    rw [if_pos (by rw [← dpAll_len hd]; exact hv)] at hr2
    have nw : ∀ {e' : Ev} {G' : Hp} {σ' : St} {H' : Hp}, Rz K none (Ef.of H) G G' e' σ' H' → (∀ a, G a = none → H a ≠ none → G' a = none) := fun R' => R'.r.nw
    have hh : ∀ {e' : Ev} {G' : Hp} {σ' : St} {H' : Hp}, Rz K none (Ef.of H) G G' e' σ' H' → Same H H' := fun R' a o z => R'.r.eh a o z (by simp)
    split at hr2
    · rename_i r' e' h1
      refine ⟨none, Ef.of H, G, G, _, _, Rz0, h1, fun v G' σ' H' s2 R' V' => ?_⟩
      unfold finR at hr2
      cases r' with
      | im d =>
        cases hr2
        exact hQ _ rfl v G' H' s2 R'.r.gh (hh R') (nw R') V'
      | ac d =>
        cases hr2
        obtain ⟨p, ws, a1, a2, a3, a4, a5, _⟩ := V'
        exact hQ _ rfl v G' H' s2 R'.r.gh (hh R') (nw R') ⟨p, ws, a1, a2, a3, a4, a5⟩
      | br i =>
        dsimp only at hr2
        split at hr2
        · rename_i d h2
          cases hr2
          obtain ⟨d', b1, b2⟩ := V'
          obtain ⟨p, ws, a1, a2, a3, a4, a5⟩ := R'.r.ac i d h2
          rw [a1] at b2
          cases b2
          have a5 : H p = none := by
            rcases a5 with a5 | a5
            · exact a5
            · cases a5.1
          exact hQ _ rfl _ G' H' s2 R'.r.gh (hh R') (nw R') ⟨p, ws, rfl, a5, a2, a3, a4⟩
        · cases hr2
    · rename_i e' h1
      cases hr2
      exact ⟨none, Ef.of H, G, G, _, _, Rz0, h1, fun G' σ' H' s2 R' => hQ _ rfl .non G' H' s2 R'.r.gh (hh R') (nw R') .non⟩
    · rename_i xc e' h1
      cases hr2
      exact ⟨none, Ef.of H, G, G, _, _, Rz0, h1, fun cls d G' σ' H' s2 R' X' => hE _ rfl cls d G' H' s2 R'.r.gh (hh R') (nw R') X'⟩
    · cases hr2
end
def x_callX (φ : List PyData → Option Ro) (dds : List PyData) (fa : Fa) : Fex := fun e => match argsI fa e with
  | some (ds, e1) => (match φ (ds ++ dds) with
    | some (.inl (.im d)) => some (.inl (.im d, e1))
    | some (.inl (.ac cs)) => some (.inl (.ac cs, e1))
    | some (.inr x) => some (.inr (x, e1))
    | _ => none)
  | none => none
def tCallX (sp : Sp) (dvs : List V) (W : WX) (t : TA) : TE := fun σ H Q => t σ H fun vs H1 => sp (vs ++ dvs) H1 Q (fun cls d H => W cls d σ H)
section
variable {X : Cx} {W : WX} {k j n : Nat} {f : Addr} {fd : FuncData} {ps : List Str} {sp : Sp} {x : Str} {p pos : Pos} {a : Expr} {es : List Expr} {t : TA} {dvs : List V} {ds : List Value} {dds : List PyData} {fa : Fa}
theorem pe_callXd (F : FnOk X.prog X.w X.K X.mg X.base (L2N.CX X.prog X.w) k f fd ps sp) (hr : Room k X.A) (hg : Gl X x) (hm : X.mg x = some (.ref f)) (hk : PySem.W.keepIn X.K (.ref f) = true) (hb : Binds X.K fd ps ds) (hd : Vals dvs ds) (tk : L2N.Takes X W)
    (ha : PA X (a :: es) t) (hdb : (x == ("__debug__" : Str)) = false := by decide) (he : starEach (a :: es) X.env = (false, eval a X.env) :: starEach es X.env := by rfl) (hpl : (backTo pos (starEach es X.env)).any (·.1) = false := by rfl) :
    PE X (.Call (.Name x p) (a :: es) [] pos) (tCallX sp dvs W t) := by
  refine ⟨fun pins s σ H Q I h => wpAny_Call_Name_kw (ld_glob I hg hm (PySem.W.callWith_K (h₀ := X.base) I.ok.mod.kin hk (thn (ha.run pos pins s σ H _ I h) fun us s1 y => ?_) he hpl) hdb)⟩
  obtain ⟨vs, H1, I1, r, q⟩ := y
  have v2 : Vals (vs ++ dvs) (us ++ ds) := r.append hd
  have hl : (us ++ ds).length = ps.length := v2.length.symm.trans (F.len _ _ _ _ q)
  refine ⟨I1.kIn, wpAny_call (codeAny_mono (F.run X.A X.stack s1 H1 ⟨us, []⟩ (us ++ ds) (vs ++ dvs) Q _ hr I1.env0 (hb s1 us I1.kIn hl) v2 q) fun e s' z => ?_)⟩
  match e, z with
  | .error e, z => exact L2N.passAt tk σ pins H1 s1 e s' I1 z
  | .ok (.ret u), z => exact I1.after z
theorem edx_call {φ : List PyData → Option Ro} (F : KfX X.prog X.w X.K X.mg X.base k x (spX X.K X.mg n φ) dvs) (hr : Room j X.A) (hk : k ≤ j) (hd : dvsD X.K dvs dds) (hn : ∀ ds, (φ ds).isSome = true → ds.length = n) (tk : L2N.Takes X W) (h : AD X (a :: es) fa) (hg : Gl X x := by rfl)
    (hdb : (x == ("__debug__" : Str)) = false := by decide) (he : starEach (a :: es) X.env = (false, eval a X.env) :: starEach es X.env := by rfl) (hpl : (backTo pos (starEach es X.env)).any (·.1) = false := by rfl) :
    EDX X W (.Call (.Name x p) (a :: es) [] pos) (x_callX φ dds fa) := by
  obtain ⟨f, fd, ps, ds, F, hm, kp, hb, hv⟩ := F
  obtain ⟨t, pa, kk⟩ := h
  refine ⟨pe_imp (pe_callXd F (hr.mono hk) hg hm kp hb hv tk pa hdb he hpl) fun σ H Q ⟨m, E, G0, G, e, o, R, q, P⟩ => ?_⟩
  unfold x_callX at q
  cases h1 : argsI fa e with
  | none => simp only [h1] at q; cases q
  | some z =>
    obtain ⟨ds, e1⟩ := z
    simp only [h1] at q
    obtain ⟨rs, q1, q2⟩ := argsI_ok h1
    refine kk m E G0 G e σ H rs e1 _ R q1 fun vs G1 H1 R1 S1 V1 => ?_
    have D1 := vr_imAll V1 q2
    have D2 := dpAll_app D1 (hd G1)
    cases h2 : φ (ds ++ dds) with
    | none => simp only [h2] at q; cases q
    | some y =>
      refine ⟨G1, ds ++ dds, y, R1.gh, D2, (by rw [dpAll_len D2]; exact hn _ (by rw [h2]; rfl)), h2, fun r hy v G' H' s1 s2 s3 nw vr => ?_, fun xc hy cls d G' H' s1 s2 s3 nw xt => ?_⟩
      · subst hy
        obtain ⟨R2, S2⟩ := R1.called s1 s2 s3 nw
        obtain ⟨V2, N2⟩ := R1.vrf vr
        cases r with
        | im d =>
          simp only [h2, Option.some.injEq] at q
          subst q
          exact P v G' H' R2 (S1.trans S2) V2 (nw_back S1 v N2)
        | ac d =>
          simp only [h2, Option.some.injEq] at q
          subst q
          exact P v G' H' R2 (S1.trans S2) V2 (nw_back S1 v N2)
        | br d => simp only [h2] at q; cases q
      · subst hy
        obtain ⟨R2, S2⟩ := R1.called s1 s2 s3 nw
        simp only [h2, Option.some.injEq] at q
        subst q
        exact P cls d G' H' R2 (S1.trans S2) xt
end
/-- __init__: a field for each name -/
def spI (C : Addr) (ns : List Str) : Sp := fun vs H Q _ => ∃ (a : Addr) (us : List V), vs = .ref a :: us ∧ us.length = ns.length ∧ H a = some (exo a C none) ∧
  ∀ (dx : Addr) (H' : Hp), H dx = none → dx ≠ a → H' a = some (exo a C (some dx)) → H' dx = some (exd dx (ns.zip us).reverse) → (∀ b, b ≠ a → b ≠ dx → H' b = H b) → Q .non H'
/-- what is told of such a class -/
structure ExT (P : Program) (w : World) (K : PySem.W.Frag) (mg : Str → Option Value) (base : Heap) (x : Str) (ns : List Str) : Prop where
  ex : ∃ (C fI : Addr) (fd : FuncData) (ps : List Str), mg x = some (.ref C) ∧ OexC K C ∧ PySem.W.findIn K (.ref C) "__init__" = some (some (.ref fI)) ∧ PySem.W.typeIn K (.ref fI) = some (.type "function") ∧ FnOk P w K mg base CX0 1 fI fd ps (spI C ns) ∧ Binds K fd ps []
def x_raise (c : Str) (ns : List Str) (fa : Fa) : Fsx := fun e => match argsI fa e with
  | some (ds, e1) => if ds.length = ns.length ∧ ns.length ≤ 1000 then some (.inr (⟨c, (ns.zip ds).reverse⟩, e1)) else none
  | none => none
theorem zip_fst {α : Type} : ∀ (ns : List Str) (us : List α), us.length = ns.length → (ns.zip us).map (·.1) = ns
  | [], _, _ => rfl
  | n :: ns, [], h => by cases h
  | n :: ns, u :: us, h => by
    rw [List.zip_cons_cons, List.map_cons, zip_fst ns us (by simpa using h)]
theorem zip_snd {α : Type} : ∀ (ns : List Str) (us : List α), us.length = ns.length → (ns.zip us).map (·.2) = us
  | [], [], _ => rfl
  | [], u :: us, h => by cases h
  | n :: ns, [], h => by cases h
  | n :: ns, u :: us, h => by
    rw [List.zip_cons_cons, List.map_cons, zip_snd ns us (by simpa using h)]
theorem dpAll_rev' {K : PySem.W.Frag} {G : Hp} {vs : List V} {ds : List PyData} (h : DpAll K G vs ds) : DpAll K G vs.reverse ds.reverse := dpAll_rev h
theorem fsAt_zip {K : PySem.W.Frag} {G : Hp} {ns : List Str} {vs : List V} {ds : List PyData} (h : DpAll K G vs ds) (hl : ds.length = ns.length) : FsAt K G (ns.zip vs).reverse (ns.zip ds).reverse := by
  have lv : vs.length = ns.length := by rw [dpAll_len h, hl]
  unfold FsAt
  rw [List.map_reverse, List.map_reverse, List.map_reverse, List.map_reverse, zip_fst ns vs lv, zip_fst ns ds hl, zip_snd ns vs lv, zip_snd ns ds hl]
  exact ⟨rfl, dpAll_rev' h⟩
theorem fin_oex {X : Cx} {pins : List (Addr × Obj)} {σ : St} {H0 H3 : Hp} {Q : XK} {s0 s3 : Shared} {h1 : Heap} {p C dd : Addr} {fs : List (Str × V)} (T : Raises X (.ref C)) (I0 : Inv X pins σ H0 s0) (hp : s0.heap.objs.size ≤ p)
    (kp : ∀ b u, s0.heap.get? b = some u → h1.get? b = some u) (n3 : Un (frs X.stack) [] (upd H0 p (exo p C none)) H3 h1 s3.heap) (ok3 : HOk X.prog X.w H3 s3.heap) (os3 : s3.os = s0.os) (bare3 : AllBare s3.gens)
    (e1 : H3 p = some (exo p C (some dd))) (e2 : H3 dd = some (exd dd fs)) (e3 : H0 dd = none) (q : Q (.ref C) (some dd) (upd (L2.del H3 p) dd (.xd fs))) : L2N.MkP X pins σ Q (.ref p) s3 := by
  obtain ⟨hh0, gg0, dd0, tt0, oo0⟩ := s0
  obtain ⟨hh3, gg3, dd3, tt3, oo3⟩ := s3
  obtain ⟨args, Gm, J, k3, none3, obj3, gone3⟩ := mk_end0 (d2 := dd3) (t2 := tt3) I0 hp kp n3 ok3 os3 bare3 e1 e2 e3
  refine ⟨p, _, _, ⟨Gm, gg3, dd3, tt3, oo3⟩, _, .ref C, some dd, rfl, J, k3, none3, obj3, ?_, rfl, rfl, gone3, rfl, bare3, T, q⟩
  exact ⟨rfl, rfl, fun ws hw => by
    cases hw
    rfl⟩
theorem pmk_oexN {X : Cx} {CX : CXT} {e0 : Expr} {rest : List Expr} {ta : TA} {np cp : Pos} {x : Str} {C fI : Addr} {k : Nat} {fd : FuncData} {ps : List Str} {sp : Sp} {gs : List Value} {gvs : List V} (T : OexC X.K C) (hi : PySem.W.findIn X.K (.ref C) "__init__" = some (some (.ref fI)))
    (ht : PySem.W.typeIn X.K (.ref fI) = some (.type "function")) (F : FnOk X.prog X.w X.K X.mg X.base CX k fI fd ps sp) (room : Room (k + 1) X.A) (hb : Binds X.K fd ps gs) (hv : Vals gvs gs) (hx : Passes CX X (fun _ _ _ => False)) (hg : Gl X x) (hm : X.mg x = some (.ref C))
    (ha : PA X (e0 :: rest) ta) (hdb : (x == ("__debug__" : Str)) = false := by decide) (hst : starEach (e0 :: rest) X.env = (false, eval e0 X.env) :: starEach rest X.env := by rfl) (hpl : (backTo cp (starEach rest X.env)).any (·.1) = false := by rfl) :
    L2N.PMk X (.Call (.Name x np) (e0 :: rest) [] cp) (tMkO C sp gvs ta) := by
  intro pins s σ H Q I q0
  have cls := T.cls
  obtain ⟨_, _, _, _, bmro, _, _, _, _, _, _, _, _, _, _, lookC, refs⟩ := cls
  refine wpAny_Call_Name_kw (ld_glob I hg hm (PySem.W.callWith_K (h₀ := X.base) I.ok.mod.kin T.kC ?_ hst hpl) hdb)
  refine thn (ha.run cp pins s σ H _ I q0) fun given sA ⟨vs, HA, IA, rel, few, mk⟩ => ⟨IA.kIn, ?_⟩
  show wpAny _ _ (call (.ref C) given) _ _ _
  -- the tuple of the arguments, then the exception
  have keep : ∀ b u, sA.heap.get? b = some u → ((sA.heap.push (PySem.W.kdv_tup given)).push (PySem.HandSPX.excO C sA.heap.objs.size)).get? b = some u := fun b u z => Heap.get?_push_of_some _ (Heap.get?_push_of_some _ z)
  have up : sA.heap.objs.size ≤ sA.heap.objs.size + 1 := Nat.le_succ _
  have fresh : HA (sA.heap.objs.size + 1) = none := IA.hok.fresh up
  have body := mk _ fresh
  obtain ⟨hp, gs0, dr, tk, os⟩ := sA
  have stands : ((hp.push (PySem.W.kdv_tup given)).push (PySem.HandSPX.excO C hp.objs.size)).get? (hp.objs.size + 1) = some (PySem.HandSPX.excO C hp.objs.size) := by
    heap_get
  have IB := IA.laid (t' := tk) (o := exo (hp.objs.size + 1) C none) keep up (exo_ok stands)
  have all : Vals (V.ref (hp.objs.size + 1) :: (vs ++ gvs)) (Value.ref (hp.objs.size + 1) :: (given ++ gs)) := .cons rfl (rel.append hv)
  have many : (Value.ref (hp.objs.size + 1) :: given ++ gs).length = ps.length := (all.length.symm.trans (F.len _ _ _ _ body) :)
  have small : given.length ≤ sizeLine := by
    have z := Paired.length rel
    rw [sizeLine_eq]
    omega
  have inits := F.run _ X.stack _ _ ⟨Value.ref (hp.objs.size + 1) :: given, []⟩ _ _ _ (fun _ _ _ => False) (room.make C given []) (IB.env0.make C given []) (hb _ (Value.ref (hp.objs.size + 1) :: given) IB.kIn many) all body
  refine wpAny_call (PySem.HandSPX.call_own PySem.F.excBase_ValueError (fun Y => PySem.HandSPX.refsVE_contains Y bmro refs) (IA.kIn _ _ lookC) (PySem.W.looks_findIn IA.kIn hi) (fun self => PySem.W.bind_fn IA.kIn self ht) small (codeAny_mono inits fun r sZ z => ?_))
  match r, z with
  | .error er, z => exact hx pins σ _ _ er sZ IB z
  | .ok .next, z => exact z.elim
  | .ok .brk, z => exact z.elim
  | .ok .cont, z => exact z.elim
  | .ok (.ret u), ⟨v, H2, os2, bare2, un2, hok2, rv, ev, dd, fs, ea, ed, hd1, q2⟩ =>
    subst ev
    exact ⟨rv, fin_oex (raises_own T.exC T.tyC) IA up keep un2 hok2 os2 bare2 ea ed hd1 q2⟩
section
variable {X : Cx} {W : WX} {x : Str} {ns : List Str} {p p2 pos : Pos} {a : Expr} {es : List Expr} {fa : Fa} {j : Nat}
theorem sdx_raise (T : ExT X.prog X.w X.K X.mg X.base x ns) (hr : Room j X.A) (hj : 2 ≤ j) (hc : X.calm = true) (tk : L2N.Takes X W) (h : AD X (a :: es) fa) (hg : Gl X x := by rfl)
    (hdb : (x == ("__debug__" : Str)) = false := by decide) (he : starEach (a :: es) X.env = (false, eval a X.env) :: starEach es X.env := by rfl) (hpl : (backTo p2 (starEach es X.env)).any (·.1) = false := by rfl) :
    SDX X W (.Raise (some (.Call (.Name x p) (a :: es) [] p2)) none pos) (x_raise x ns fa) := by
  obtain ⟨C, fI, fd, ps, gC, T1, iC, tI, F1, hb⟩ := T
  obtain ⟨t, pa, kk⟩ := h
  refine ⟨ps_imp (L2N.ps_raise hc tk (pmk_oexN T1 iC tI F1 (hr.mono hj) hb .nil (fun _ _ _ _ _ _ _ z => z.elim) hg gC pa hdb he hpl)) fun D σ H ⟨m, E, G0, G, e, o, R, q, P⟩ => ?_⟩
  unfold x_raise at q
  cases h1 : argsI fa e with
  | none => simp only [h1] at q; cases q
  | some z =>
    obtain ⟨ds, e1⟩ := z
    simp only [h1] at q
    by_cases hl : ds.length = ns.length ∧ ns.length ≤ 1000
    · rw [if_pos hl] at q
      cases q
      obtain ⟨rs, q1, q2⟩ := argsI_ok h1
      refine kk m E G0 G e σ H rs e1 _ R.r q1 fun vs G1 H1 R1 S1 V1 => ?_
      have D1 := vr_imAll V1 q2
      have lv : vs.length = ns.length := by rw [dpAll_len D1]; exact hl.1
      refine ⟨by omega, fun b hb1 => ⟨b, vs, by rw [List.append_nil], lv, upd_same, fun dx H' d1 d2 d3 d4 d5 => ⟨rfl, dx, (ns.zip vs).reverse, d3, d4, ?_, ?_⟩⟩⟩
      · rw [upd_ne d2] at d1
        exact d1
      · have d0 : H1 dx = none := by rwa [upd_ne d2] at d1
        have eq : upd (L2.del H' b) dx (.xd (ns.zip vs).reverse) = upd H1 dx (.xd (ns.zip vs).reverse) := by
          funext c
          by_cases y : c = dx
          · subst y
            rw [upd_same, upd_same]
          · rw [upd_ne y, upd_ne y]
            by_cases y2 : c = b
            · subst y2
              rw [L2.del_same]
              exact hb1.symm
            · rw [L2.del_ne y2, d5 c y2 y, upd_ne y2]
        rw [eq]
        obtain ⟨R2, S2⟩ := R1.newG (o := .xd (ns.zip vs).reverse) d0
        refine P (.ref C) (some dx) _ σ _ (S1.gg.trans S2.gg) (R.exp R2 (S1.trans S2)) ⟨C, dx, _, gC, rfl, rfl, upd_same, ?_⟩
        exact (fsAt_zip D1 hl.1).same S2.gg
    · rw [if_neg hl] at q
      cases q
end
end DL
namespace DL
open PySem PySem.Spec PyProof.Rows L2
section
variable {P : Program} {w : World} {K : PySem.W.Frag} {mg : Str → Option Value} {base : Heap} {x qual : Str} {params : Arguments} {body : List Stmt} {scope : Scope} {dvs : List V} {kws : List (Str × V)} {f C : Addr} {fd : FuncData} {N ps : List Str} {f1 f2 : Str}
theorem init2 (F : FunD K x qual params body scope dvs kws f fd) (S : FnScope N ps scope) (hp : ps.length = 3) (T : OexC K C) (n1 : PySem.W.findIn K (.ref C) f1 = some none) (n2 : PySem.W.findIn K (.ref C) f2 = some none)
    (hb : ∀ (cdv : Value) (A : Around) (outer : List Env) (s : Shared) (H : Hp) (E : XK), PSs (cxOf CX0 P w K mg base N qual scope f cdv A outer s H E) body (tSeq (tOst K f1 (tVar 0) (tVar 1)) (tSeq (tOst K f2 (tVar 0) (tVar 2)) tNext))) : FnOk P w K mg base CX0 1 f fd ps (spI C [f1, f2]) := by
  refine F.ok S (fun vs H Q E h => ?_) fun cdv A outer s H vs Q E hr h => ⟨_, hb cdv A outer s H E, ?_⟩
  · obtain ⟨a, us, rfl, h1, _⟩ := h
    rw [hp, List.length_cons, h1]
    rfl
  · obtain ⟨a, us, rfl, h1, h2, h3⟩ := h
    match us, h1 with
    | [u1, u2], _ =>
      refine ⟨u1, st_at rfl, .ref a, st_at rfl, a, C, rfl, T, n1, .inl ⟨h2, fun dx d1 d2 => ?_⟩⟩
      have e2 : a ≠ dx := fun z => d2 z.symm
      refine ⟨u2, st_at rfl, .ref a, st_at rfl, a, C, rfl, T, n2, .inr ⟨dx, [(f1, u1)], upd_same, by rw [upd_ne d2, upd_same], by show 1 ≤ 900; omega, ?_⟩⟩
      exact h3 dx _ d1 d2 (by rw [upd_ne e2, upd_same]) upd_same fun b b1 b2 => by rw [upd_ne b2, upd_ne b1, upd_ne b2]
end
section
variable {K : PySem.W.Frag} {m : Option Addr} {E : Ef} {G0 G H : Hp} {e : Ev} {σ : St} {i : Nat}
theorem Rl.drop (R : Rl K m E G0 G e σ H) (i : Nat) : Rl K m E G0 G (e.set i none) (σ.set i none) H := by
  have keep : ∀ {j : Nat} {s : Sl}, (e.set i none)[j]? = some (some s) → e[j]? = some (some s) ∧ (σ.set i none)[j]? = σ[j]? := fun {j s} z => by
    have z2 := R.len
    rw [set_get] at z ⊢
    by_cases y : i = j ∧ j < e.length
    · rw [if_pos y] at z
      cases z
    · rw [if_neg y] at z
      exact ⟨z, if_neg (by omega)⟩
  refine ⟨R.gg, R.gh, R.eh, R.mh, R.nw, by rw [List.length_set, List.length_set]; exact R.len, ?_, ?_, ?_, ?_⟩
  · intro j d z
    rw [(keep z).2]
    exact R.im j d (keep z).1
  · intro j ds z
    rw [(keep z).2]
    exact R.ac j ds (keep z).1
  · intro j k dj dk q z1 z2 z3 z4
    rw [(keep z1).2] at z3
    rw [(keep z2).2] at z4
    exact R.inj j k dj dk q (keep z1).1 (keep z2).1 z3 z4
  · intro j s z
    rw [(keep z).2]
    exact R.ot j s (keep z).1
theorem Rz.drop (R : Rz K m E G0 G e σ H) (ok : okS [i] e = true) : Rz K m E G0 G (e.set i none) (σ.set i none) H := by
  refine ⟨R.r.drop i, fun p z => ?_⟩
  obtain ⟨z1, z2⟩ := R.z p z
  by_cases y : i = 0
  · subst y
    exact absurd (List.mem_singleton.mpr rfl) (okS_no ok z1)
  · rw [List.getElem?_set_ne y, List.getElem?_set_ne y]
    exact ⟨z1, z2⟩
end
def gone (i : Nat) (e : Ev) : Option Ev := if okS [i] e = true then some (e.set i none) else none
/-- behind a clause the name is gone -/
def goneF (i : Nat) : Fl → Option Fl
  | .nx e => (gone i e).map .nx
  | .bk e => (gone i e).map .bk
  | .ct e => (gone i e).map .ct
  | .rt (.im d) e => (gone i e).map (.rt (.im d))
  | .rt _ _ => none
abbrev Su := Str → Addr → Addr → Fs
/-- what a clause gives, wherever the exception stands -/
def caught (i : Nat) (g : Su) (x : Xc) (e : Ev) (fl : Fl) : Prop := ∀ (a dd : Addr) (fs : List (Str × V)), ∃ fl', g x.c a dd (e.set i (some (.ob (.xc a dd fs x.fs)))) = some fl' ∧ goneF i fl' = some fl
theorem caught_one {i : Nat} {g : Su} {x : Xc} {e : Ev} {fl fl2 : Fl} (h : caught i g x e fl) (h2 : caught i g x e fl2) : fl = fl2 := by
  obtain ⟨f1, a1, a2⟩ := h 0 0 []
  obtain ⟨f2, b1, b2⟩ := h2 0 0 []
  rw [a1] at b1
  cases b1
  rw [a2] at b2
  exact Option.some.inj b2
open Classical in
noncomputable def x_try (fb : Fsx) (sub : Str → Option Bool) (i : Nat) (g : Su) : Fsx := fun e => match fb e with
  | some (.inl fl) => some (.inl fl)
  | some (.inr (x, e1)) => (match sub x.c with
    | some true => if h : okS [i] e1 = true ∧ ∃ fl, caught i g x e1 fl then some (.inl (choose h.2)) else none
    | some false => some (.inr (x, e1))
    | none => none)
  | none => none
theorem x_try_no {fb : Fsx} {sub : Str → Option Bool} {i : Nat} {g : Su} {e : Ev} {fl : Fl} (h : fb e = some (.inl fl)) : x_try fb sub i g e = some (.inl fl) := by
  unfold x_try
  rw [h]
theorem x_try_yes {fb : Fsx} {sub : Str → Option Bool} {i : Nat} {g : Su} {e e1 : Ev} {x : Xc} {fl : Fl} (h : fb e = some (.inr (x, e1))) (hs : sub x.c = some true) (ok : okS [i] e1 = true) (c : caught i g x e1 fl) : x_try fb sub i g e = some (.inl fl) := by
  unfold x_try
  rw [h]
  dsimp only
  rw [hs]
  dsimp only
  rw [dif_pos ⟨ok, fl, c⟩]
  exact congrArg (fun z => some (Sum.inl z)) (caught_one (Classical.choose_spec (⟨fl, c⟩ : ∃ fl, caught i g x e1 fl)) c)
def SubT (K : PySem.W.Frag) (mg : Str → Option Value) (c : Value) (sub : Str → Option Bool) : Prop := ∀ x b, sub x = some b → ∀ C, mg x = some (.ref C) → PySem.W.exmOne K (.ref C) c = some b
def noW : WX := fun _ _ _ _ => False
/-- the clause's reading -/
def tsC (K : PySem.W.Frag) (mg : Str → Option Value) (g : Su) (a : Addr) (cls : Value) (d : Option Addr) : TS := fun D σ H => ∃ (c : Str) (C dd : Addr), mg c = some (.ref C) ∧ cls = .ref C ∧ d = some dd ∧ tsX K mg (xS (g c a dd)) noW D σ H
section
variable {X : Cx} {W : WX} {x n : Str} {c : Value} {i : Nat} {body suite : List Stmt} {b0 : Stmt} {np pos pos' : Pos} {fb : Fsx} {sub : Str → Option Bool} {g : Su}
theorem suite_read {a : Addr} {oe : Obj} {cls : Value} {d : Option Addr} {pn : List (Addr × Obj)} (hz : L2N.Zn cls d oe) (hv : ∃ vs, oe.data = .fields vs)
    (hsu : ∀ (k : Str) (C a dd : Addr) (oe : Obj) (pn : List (Addr × Obj)), X.mg k = some (.ref C) → L2N.Zn (.ref C) (some dd) oe → (∃ vs, oe.data = .fields vs) → SsD (X.suite a ((a, oe) :: pn)) (b0 :: suite) (g k a dd)) :
    PSs (X.suite a ((a, oe) :: pn)) (b0 :: suite) (tsC X.K X.mg g a cls d) := by
  refine ⟨fun pins s σ H D I ⟨k, C, dd, h1, h2, h3, h4⟩ => ?_⟩
  subst h2 h3
  exact ((hsu k C a dd oe pn h1 hz hv).x (W := noW)).run.run pins s σ H D I h4
theorem try_read {st : Stmt} (T : SubT X.K X.mg c sub) (h : PS X st (fun D σ H => tsX X.K X.mg fb (wAs X.K c i (tsC X.K X.mg g) W D) D σ H)) : SDX X W st (x_try fb sub i g) := by
  refine ⟨ps_imp h fun D σ H ⟨m, E, G0, G, e, o, R, q, P⟩ => ?_⟩
  unfold x_try at q
  split at q
  · rename_i fl h1
    cases q
    exact ⟨m, E, G0, G, e, _, R, h1, P⟩
  · rename_i y e1 h1
    refine ⟨m, E, G0, G, e, _, R, h1, ?_⟩
    intro cls d G' σ' H' s1 R1 A1
    obtain ⟨C, dd, fs, g1, g2, g3, g4, g5⟩ := A1
    subst g2 g3
    split at q
    · rename_i h2
      split at q
      · rename_i hh
        cases q
        have cc := Classical.choose_spec hh.2
        refine ⟨true, T _ _ h2 C g1, fun _ a na => ?_, fun z => by cases z⟩
        obtain ⟨fl', c1, c2⟩ := cc a dd fs
        have R2 : Rz X.K m E G0 G' (e1.set i (some (.ob (.xc a dd fs y.fs)))) (σ'.set i (some (.ref a))) H' := R1.setO ⟨rfl, g4, g5.1, g5.2⟩ hh.1
        refine ⟨y.c, C, dd, g1, rfl, rfl, m, E, G0, G', _, .inl fl', R2, (by show (g y.c a dd _).map Sum.inl = _; rw [c1]; rfl), ?_⟩
        have P2 := PoS.aft P s1
        generalize Classical.choose hh.2 = fl at c2 P2
        have drop : ∀ {e2 e3 : Ev}, gone i e2 = some e3 → okS [i] e2 = true ∧ e3 = e2.set i none := fun {e2 e3} z => by
          unfold gone at z
          by_cases k : okS [i] e2 = true
          · rw [if_pos k] at z
            exact ⟨k, (Option.some.inj z).symm⟩
          · rw [if_neg k] at z
            cases z
        match fl', c2 with
        | .nx e2, c2 =>
          cases h3 : gone i e2 with
          | none => rw [show goneF i (.nx e2) = (gone i e2).map .nx from rfl, h3] at c2; cases c2
          | some e3 =>
            rw [show goneF i (.nx e2) = (gone i e2).map .nx from rfl, h3] at c2
            cases c2
            obtain ⟨k1, rfl⟩ := drop h3
            exact fun G2 σ2 H2 s2 R3 => P2 G2 _ H2 s2 (R3.drop k1)
        | .bk e2, c2 =>
          cases h3 : gone i e2 with
          | none => rw [show goneF i (.bk e2) = (gone i e2).map .bk from rfl, h3] at c2; cases c2
          | some e3 =>
            rw [show goneF i (.bk e2) = (gone i e2).map .bk from rfl, h3] at c2
            cases c2
            obtain ⟨k1, rfl⟩ := drop h3
            exact fun G2 σ2 H2 s2 R3 => P2 G2 _ H2 s2 (R3.drop k1)
        | .ct e2, c2 =>
          cases h3 : gone i e2 with
          | none => rw [show goneF i (.ct e2) = (gone i e2).map .ct from rfl, h3] at c2; cases c2
          | some e3 =>
            rw [show goneF i (.ct e2) = (gone i e2).map .ct from rfl, h3] at c2
            cases c2
            obtain ⟨k1, rfl⟩ := drop h3
            exact fun G2 σ2 H2 s2 R3 => P2 G2 _ H2 s2 (R3.drop k1)
        | .rt (.im dv) e2, c2 =>
          cases h3 : gone i e2 with
          | none => rw [show goneF i (.rt (.im dv) e2) = (gone i e2).map (.rt (.im dv)) from rfl, h3] at c2; cases c2
          | some e3 =>
            rw [show goneF i (.rt (.im dv) e2) = (gone i e2).map (.rt (.im dv)) from rfl, h3] at c2
            cases c2
            obtain ⟨k1, rfl⟩ := drop h3
            exact fun v G2 σ2 H2 s2 R3 V => P2 v G2 _ H2 s2 (R3.drop k1) V
        | .rt (.ac dv) e2, c2 => cases c2
        | .rt (.br dv) e2, c2 => cases c2
      · cases q
    · rename_i h2
      cases q
      exact ⟨false, T _ _ h2 C g1, (fun z => by cases z), fun _ => P _ _ G' σ' H' s1 R1 ⟨C, dd, fs, g1, rfl, rfl, g4, g5⟩⟩
    · cases q
  · cases q
end
def noX (f : Fsx) : Fs := fun e => match f e with
  | some (.inl fl) => some fl
  | _ => none
def x_fld (ok : Str → Bool) (k : Str) (a dd : Addr) (i : Nat) (f : Str) : Fe := fun e => if ok k = true then (match e[i]? with
  | some (some (.ob (.xc a' dd' _ ds))) => if a' = a ∧ dd' = dd then (ds.lookup f).map fun d => (.im d, e) else none
  | _ => none) else none
structure FldT (K : PySem.W.Frag) (mg : Str → Option Value) (f : Str) (ok : Str → Bool) : Prop where
  at_ : ∀ k, ok k = true → ∀ C, mg k = some (.ref C) → XfC K C ∧ PySem.W.findIn K (.ref C) f = some none
theorem look_fs {K : PySem.W.Frag} {G : Hp} {f : Str} {d : PyData} : ∀ {fs : List (Str × V)} {ds : List (Str × PyData)}, fs.map (·.1) = ds.map (·.1) → DpAll K G (fs.map (·.2)) (ds.map (·.2)) → ds.lookup f = some d → ∃ v, fs.lookup f = some v ∧ Dp K G v d
  | [], [], _, _, h => by cases h
  | [], _ :: _, h, _, _ => by cases h
  | _ :: _, [], h, _, _ => by cases h
  | (a, v) :: fs, (b, w) :: ds, h1, h2, h3 => by
    obtain ⟨ha, hr⟩ := List.cons.inj (show a :: fs.map (·.1) = b :: ds.map (·.1) from h1)
    subst ha
    rw [List.lookup_cons] at h3 ⊢
    cases h : (f == a) with
    | true =>
      rw [h] at h3
      cases h3
      exact ⟨v, rfl, by cases h2; assumption⟩
    | false =>
      rw [h] at h3
      exact look_fs hr (by cases h2; assumption) h3
section
variable {X : Cx} {a dd C : Addr} {oe : Obj} {pn : List (Addr × Obj)} {n f k : Str} {i : Nat} {pos np : Pos} {ok : Str → Bool}
theorem ed_fld (T : FldT X.K X.mg f ok) (hm : X.mg k = some (.ref C)) (hz : Zc (.ref C) (some dd) oe) (hf : ∃ vs, oe.data = .fields vs) (hN : X.N[i]? = some n := by rfl) (hv : Vis X.env.scope n := by first | exact Or.inl rfl | exact Or.inr (Or.inl rfl) | exact Or.inr (Or.inr rfl))
    (hd : (n == ("__debug__" : Str)) = false := by decide) (hcd : (n == ("__classdict__" : Str)) = false := by decide) (hb : attributeBase (.Name n np) f X.env (eval (.Name n np) X.env) = eval (.Name n np) X.env := by rfl) :
    ED (X.suite a ((a, oe) :: pn)) (.Attribute (.Name n np) f pos) (x_fld ok k a dd i f) := by
  by_cases hok : ok k = true
  · obtain ⟨t1, t2⟩ := T.at_ k hok C hm
    refine ⟨_, pe_xf (X := X) t1 t2 hz hf (pe_var (X := X.suite a ((a, oe) :: pn)) hN hv hd hcd) hb, fun m E G0 G e σ H r e' Q R q P => ?_⟩
    unfold x_fld at q
    rw [if_pos hok] at q
    split at q
    · rename_i a' dd' fs ds h1
      split at q
      · rename_i h2
        obtain ⟨rfl, rfl⟩ := h2
        cases h3 : ds.lookup f with
        | none => rw [h3] at q; cases q
        | some d =>
          rw [h3] at q
          cases q
          obtain ⟨o1, o2, o3, o4⟩ := R.ot i _ h1
          obtain ⟨v, l1, l2⟩ := look_fs o3 o4 h3
          exact ⟨.ref _, o1, rfl, rfl, _, fs, v, rfl, R.gh _ _ o2, l1, P v G H R Stp.refl l2 True.intro⟩
      · cases q
    · cases q
  · refine ⟨fun _ _ _ => False, ⟨fun _ _ _ _ _ _ z => z.elim⟩, fun m E G0 G e σ H r e' Q R q P => ?_⟩
    unfold x_fld at q
    rw [if_neg hok] at q
    cases q
end
end DL
namespace DL
open PySem PySem.Spec PyProof.Rows L2
def x_isE (kit : Str → Option Bool) (k : Str) (a dd : Addr) (i : Nat) : Fe := fun e => match e[i]? with
  | some (some (.ob (.xc a' dd' _ _))) => if a' = a ∧ dd' = dd then (kit k).map fun b => (.im (.bool b), e) else none
  | _ => none
structure KitOk (K : PySem.W.Frag) (D : Addr) : Prop where
  cl : (PySem.W.clsIn K D).isSome = true
  hg : PySem.W.findIn K (.ref D) "__getattribute__" = some (some (.builtin "BaseException.__getattribute__"))
  hk : PySem.W.findIn K (.ref D) "__getattr__" = some none
  hs : PySem.W.subIn K (.ref D) (.type "BaseException") = some true
  ha : PySem.W.findIn K (.ref D) "__class__" = some (some (.builtin "object.__class__"))
  hn : PySem.W.specialIn K (.builtin "object.__class__") "__get__" = some (some (.builtin "getset_descriptor.__get__"))
  ht : PySem.W.takesIn K (.builtin "object.__class__") = some true
  hm : PySem.W.mroIn K D (.type "object") = some true
structure KitT (K : PySem.W.Frag) (mg : Str → Option Value) (T : Addr) (kit : Str → Option Bool) : Prop where
  at_ : ∀ k b, kit k = some b → ∀ C, mg k = some (.ref C) → KitOk K C ∧ PySem.W.kitOne K (.ref C) (.ref T) = some b
def rIsX (K : PySem.W.Frag) (D T a dd : Addr) : List V → Hp → VK → Prop := fun xs H Q => ∃ (fs : List (Str × V)) (b : Bool), xs = [.ref a, .ref T] ∧ H dd = some (.xd fs) ∧ PySem.W.kitOne K (.ref D) (.ref T) = some b ∧ Q (.bl b) H
section
variable {X : Cx} {a dd C T : Addr} {oe : Obj} {pn : List (Addr × Obj)} {n y k : Str} {i : Nat} {pos p p2 np : Pos} {kit : Str → Option Bool}
theorem call_isX (h : KitOk X.K C) (hz : Zc (.ref C) (some dd) oe) (hf : ∃ vs, oe.data = .fields vs) : CallR (X.suite a ((a, oe) :: pn)) (.builtin "isinstance") (rIsX X.K C T a dd) := by
  rintro pins s σ H xs us Q I r ⟨fs, b, rfl, hd, e, q⟩
  match us, r with
  | [u1, u2], .cons r1 (.cons r2 .nil) =>
    obtain rfl : u1 = Value.ref a := r1
    obtain rfl : u2 = Value.ref T := r2
    have hp := I.pin (a, oe) (List.mem_append_left _ List.mem_cons_self)
    obtain ⟨vs, hv⟩ := hf
    obtain ⟨mA, ns, _⟩ := (I.hok dd _ hd : ObjOk X.prog X.w H s.heap dd (.xd fs))
    obtain ⟨od, ho, _⟩ := lookIn_ns ns
    have J : PySem.W.InstAt s.heap a oe C (some od) := by
      refine ⟨hp.1, hz.1, ?_, ?_⟩
      · unfold PySem.W.notCls
        rw [hv] <;> rfl
      · rw [hz.2]
        exact ho
    exact PySem.W.kia_one (PySem.W.kitx_exc h.cl h.hg h.hk h.hs h.ha h.hn h.ht h.hm) I.kIn J e (fun z => nomatch z) fun tk => ⟨.bl b, H, I.kept (t' := tk) fun _ _ z => z, rfl, q⟩
theorem ed_isE (h : KitT X.K X.mg T kit) (hk : X.mg k = some (.ref C)) (hz : Zc (.ref C) (some dd) oe) (hf : ∃ vs, oe.data = .fields vs) (hm : X.mg "isinstance" = none) (hy : X.mg y = some (.ref T)) (hN : X.N[i]? = some n := by rfl) (hv : Vis X.env.scope n := by first | exact Or.inl rfl | exact Or.inr (Or.inl rfl) | exact Or.inr (Or.inr rfl))
    (hd : (n == ("__debug__" : Str)) = false := by decide) (hcd : (n == ("__classdict__" : Str)) = false := by decide) (hg : Gl X "isinstance" := by rfl) (hgT : Gl X y := by rfl) (hdy : (y == ("__debug__" : Str)) = false := by decide)
    (h1 : starEach [.Name y p2] X.env = (false, eval (.Name y p2) X.env) :: starEach [] X.env := by rfl)
    (he : starEach [.Name n np, .Name y p2] X.env = (false, eval (.Name n np) X.env) :: starEach [.Name y p2] X.env := by rfl) (hpl : (backTo pos (starEach [.Name y p2] X.env)).any (·.1) = false := by rfl) :
    ED (X.suite a ((a, oe) :: pn)) (.Call (.Name "isinstance" p) [.Name n np, .Name y p2] [] pos) (x_isE kit k a dd i) := by
  by_cases hb : ∃ b, kit k = some b
  · obtain ⟨b, hb⟩ := hb
    obtain ⟨t1, t2⟩ := h.at_ k b hb C hk
    refine ⟨_, pe_callB (X := X.suite a ((a, oe) :: pn)) (call_isX (T := T) t1 hz hf) hg hm (by decide +kernel) (pa_cons (pe_var (X := X.suite a ((a, oe) :: pn)) hN hv hd hcd) (pa_cons (pe_glob (X := X.suite a ((a, oe) :: pn)) (v := .ref T) hgT hy rfl hdy) pa_nil h1) he) (by decide) (by decide) he hpl, fun m E G0 G e σ H r e' Q R q P => ?_⟩
    unfold x_isE at q
    split at q
    · rename_i a' dd' fs ds h3
      split at q
      · rename_i h4
        obtain ⟨rfl, rfl⟩ := h4
        rw [hb] at q
        cases q
        obtain ⟨o1, o2, _, _⟩ := R.ot i _ h3
        exact ⟨.ref _, o1, fs, b, rfl, R.gh _ _ o2, t2, P (.bl b) G H R Stp.refl (.bl _) True.intro⟩
      · cases q
    · cases q
  · refine ⟨fun _ _ _ => False, ⟨fun _ _ _ _ _ _ z => z.elim⟩, fun m E G0 G e σ H r e' Q R q P => ?_⟩
    unfold x_isE at q
    split at q
    · split at q
      · cases h5 : kit k with
        | none => rw [h5] at q; cases q
        | some b => exact absurd ⟨b, h5⟩ hb
      · cases q
    · cases q
end
end DL
namespace DL
open PySem PySem.Spec PyProof.Rows L2
abbrev XTab := List ((Str × Str) × Bool)
def tabF (tab : XTab) (y : Str) : Str → Option Bool := fun k => tab.lookup (k, y)
structure XcC (K : PySem.W.Frag) (C : Addr) : Prop where
  ox : OexC K C
  xf : XfC K C
  ki : KitOk K C
structure Xi (K : PySem.W.Frag) (mg : Str → Option Value) (cs ys fs : List Str) (tab : XTab) : Prop where
  cl : ∀ x, cs.contains x = true → ∃ C, mg x = some (.ref C) ∧ XcC K C ∧ ∀ f, fs.contains f = true → PySem.W.findIn K (.ref C) f = some none
  gl : ∀ y, ys.contains y = true → ∃ D, mg y = some (.ref D)
  rel : ∀ k y b, tab.lookup (k, y) = some b → cs.contains k = true ∧ ∀ C D, mg k = some (.ref C) → mg y = some (.ref D) → PySem.W.exmOne K (.ref C) (.ref D) = some b ∧ PySem.W.kitOne K (.ref C) (.ref D) = some b
section
variable {K : PySem.W.Frag} {mg : Str → Option Value} {cs ys fs : List Str} {tab : XTab}
theorem Xi.sub (T : Xi K mg cs ys fs tab) (y : Str) (h : ys.contains y = true := by decide +kernel) : ∃ D, mg y = some (.ref D) ∧ SubT K mg (.ref D) (tabF tab y) := by
  obtain ⟨D, hD⟩ := T.gl y h
  exact ⟨D, hD, fun k b z C hC => ((T.rel k y b z).2 C D hC hD).1⟩
theorem Xi.kit (T : Xi K mg cs ys fs tab) (y : Str) (h : ys.contains y = true := by decide +kernel) : ∃ D, mg y = some (.ref D) ∧ KitT K mg D (tabF tab y) := by
  obtain ⟨D, hD⟩ := T.gl y h
  refine ⟨D, hD, ⟨fun k b z C hC => ?_⟩⟩
  obtain ⟨z1, z2⟩ := T.rel k y b z
  obtain ⟨C', h1, h2, _⟩ := T.cl k z1
  rw [hC] at h1
  cases h1
  exact ⟨h2.ki, (z2 C D hC hD).2⟩
theorem Xi.fld (T : Xi K mg cs ys fs tab) (f : Str) (h : fs.contains f = true := by decide +kernel) : FldT K mg f (fun k => cs.contains k) := by
  refine ⟨fun k z C hC => ?_⟩
  obtain ⟨C', h1, h2, h3⟩ := T.cl k z
  rw [hC] at h1
  cases h1
  exact ⟨h2.xf, h3 f h⟩
end
section
variable {X : Cx} {W : WX} {x n : Str} {i : Nat} {body suite : List Stmt} {b0 : Stmt} {np pos pos' : Pos} {fb : Fsx} {sub : Str → Option Bool} {g : Su}
theorem ed_isT {X : Cx} {a dd C : Addr} {oe : Obj} {pn : List (Addr × Obj)} {n y k : Str} {i : Nat} {pos p p2 np : Pos} {kit : Str → Option Bool}
    (h : ∃ D, X.mg y = some (.ref D) ∧ KitT X.K X.mg D kit) (hk : X.mg k = some (.ref C)) (hz : Zc (.ref C) (some dd) oe) (hf : ∃ vs, oe.data = .fields vs) (hm : X.mg "isinstance" = none) (hN : X.N[i]? = some n := by rfl) (hv : Vis X.env.scope n := by first | exact Or.inl rfl | exact Or.inr (Or.inl rfl) | exact Or.inr (Or.inr rfl))
    (hd : (n == ("__debug__" : Str)) = false := by decide) (hcd : (n == ("__classdict__" : Str)) = false := by decide) (hg : Gl X "isinstance" := by rfl) (hgT : Gl X y := by rfl) (hdy : (y == ("__debug__" : Str)) = false := by decide)
    (h1 : starEach [.Name y p2] X.env = (false, eval (.Name y p2) X.env) :: starEach [] X.env := by rfl)
    (he : starEach [.Name n np, .Name y p2] X.env = (false, eval (.Name n np) X.env) :: starEach [.Name y p2] X.env := by rfl) (hpl : (backTo pos (starEach [.Name y p2] X.env)).any (·.1) = false := by rfl) :
    ED (X.suite a ((a, oe) :: pn)) (.Call (.Name "isinstance" p) [.Name n np, .Name y p2] [] pos) (x_isE kit k a dd i) := by
  obtain ⟨D, h1', h2⟩ := h
  exact ed_isE h2 hk hz hf hm h1' hN hv hd hcd hg hgT hdy h1 he hpl
end
def oexB (K : PySem.W.Frag) (C : Addr) : Bool := match K.lookup C with
  | some ⟨.type "type", _, .cls cd, sl⟩ => (match cd.mro, sl.toList with
    | .ref C' :: bm, [_, _, _, _, some (.builtin n), _] => decide (C' = C) && (decide (n = "ValueError.__new__") && (cd.hasDict && (!cd.hasDel && PySem.HandSPX.refsVE bm)))
    | _, _ => false)
  | _ => false
theorem oexB_ok {K : PySem.W.Frag} {C : Addr} (h : oexB K C = true) : ∃ nm q N bs bm sn sub ab col dd k0 k1 k2 k3 k5, K.lookup C = some (excClassObj nm q C N bs bm true sn sub ab col dd k0 k1 k2 k3 k5 "ValueError.__new__") ∧ PySem.HandSPX.refsVE bm = true := by
  unfold oexB at h
  split at h
  · rename_i dd cd sl ho
    split at h
    · rename_i C' bm k0 k1 k2 k3 n k5 hm hs
      obtain ⟨h1, h⟩ := He.ba h
      obtain ⟨h2, h⟩ := He.ba h
      obtain ⟨h3, h⟩ := He.ba h
      obtain ⟨h4, h5⟩ := He.ba h
      have e1 := of_decide_eq_true h1
      have e2 := of_decide_eq_true h2
      subst e1 e2
      obtain ⟨nm, bs, mro, ns, qn, hd, sn, sub, ab, col, del⟩ := cd
      dsimp only at hm h3 h4
      subst hm h3
      have e4 : del = false := by simpa using h4
      subst e4
      obtain ⟨l⟩ := sl
      have e5 : l = [k0, k1, k2, k3, some (.builtin "ValueError.__new__"), k5] := hs
      subst e5
      exact ⟨nm, qn, ns, bs, bm, sn, sub, ab, col, dd, k0, k1, k2, k3, k5, ho, h5⟩
    · cases h
  · cases h
def xcB (K : PySem.W.Frag) (C : Addr) : Bool := oexB K C && (decide (PySem.W.findIn K (.ref C) "__setattr__" = some (some (.builtin "object.__setattr__"))) && (decide (PySem.W.subIn K (.ref C) (.type "BaseException") = some true) && (decide (PySem.W.typeIn K (.ref C) = some (.type "type")) && (PySem.W.keepIn K (.ref C) && (xfB K C &&
  ((PySem.W.clsIn K C).isSome && (decide (PySem.W.findIn K (.ref C) "__class__" = some (some (.builtin "object.__class__"))) && (decide (PySem.W.specialIn K (.builtin "object.__class__") "__get__" = some (some (.builtin "getset_descriptor.__get__"))) && (decide (PySem.W.takesIn K (.builtin "object.__class__") = some true) && decide (PySem.W.mroIn K C (.type "object") = some true))))))))))
theorem xcB_ok {K : PySem.W.Frag} {C : Addr} (h : xcB K C = true) : XcC K C := by
  obtain ⟨h1, h⟩ := He.ba h
  obtain ⟨h2, h⟩ := He.ba h
  obtain ⟨h3, h⟩ := He.ba h
  obtain ⟨h4, h⟩ := He.ba h
  obtain ⟨h5, h⟩ := He.ba h
  obtain ⟨h6, h⟩ := He.ba h
  obtain ⟨h7, h⟩ := He.ba h
  obtain ⟨h8, h⟩ := He.ba h
  obtain ⟨h9, h⟩ := He.ba h
  obtain ⟨h10, h11⟩ := He.ba h
  have x := xfB_ok h6
  exact ⟨⟨oexB_ok h1, of_decide_eq_true h2, of_decide_eq_true h3, of_decide_eq_true h4, h5⟩, x, ⟨h7, x.ga, x.gg, x.exC, of_decide_eq_true h8, of_decide_eq_true h9, of_decide_eq_true h10, of_decide_eq_true h11⟩⟩
/-- a class with its __init__ -/
def iniB (K : PySem.W.Frag) (x : Str) : Bool := decide (PySem.W.findIn K (.ref (He.ga K x)) "__init__" = some (some (.ref (He.ma K (He.ga K x) "__init__")))) && decide (PySem.W.typeIn K (.ref (He.ma K (He.ga K x) "__init__")) = some (.type "function"))
def exB (cs ys fs : List Str) (tab : XTab) (K : PySem.W.Frag) : Bool :=
  (cs.all fun x => (He.Fa.glo x).ok K && (xcB K (He.ga K x) && (iniB K x && fs.all fun f => decide (PySem.W.findIn K (.ref (He.ga K x)) f = some none)))) &&
    ((ys.all fun y => (He.Fa.glo y).ok K) && (tab.all fun t => cs.contains t.1.1 && (ys.contains t.1.2 && (decide (PySem.W.exmOne K (.ref (He.ga K t.1.1)) (.ref (He.ga K t.1.2)) = some t.2) && decide (PySem.W.kitOne K (.ref (He.ga K t.1.1)) (.ref (He.ga K t.1.2)) = some t.2)))))
section
variable {K : PySem.W.Frag} {h : Heap} {mg : Str → Option Value} {cs ys fs : List Str} {tab : XTab}
theorem look_mem {α β : Type} [BEq α] [LawfulBEq α] {a : α} {b : β} : ∀ {l : List (α × β)}, l.lookup a = some b → (a, b) ∈ l
  | [], h => by cases h
  | (c, d) :: l, h => by
    rw [List.lookup_cons] at h
    cases q : (a == c) with
    | true =>
      rw [q] at h
      cases h
      rw [eq_of_beq q]
      exact List.mem_cons_self
    | false =>
      rw [q] at h
      exact List.mem_cons_of_mem _ (look_mem h)
theorem exB_xi (X : K.In h) (G : h.Ns mainGlobals mg) (c : exB cs ys fs tab K = true) : Xi K mg cs ys fs tab := by
  obtain ⟨c1, c⟩ := He.ba c
  obtain ⟨c2, c3⟩ := He.ba c
  refine ⟨fun x hx => ?_, fun y hy => ?_, fun k y b z => ?_⟩
  · obtain ⟨h1, h2⟩ := He.ba (List.all_eq_true.mp c1 x (List.contains_iff_mem.mp hx))
    obtain ⟨h2, h3⟩ := He.ba h2
    obtain ⟨h3, h4⟩ := He.ba h3
    exact ⟨_, He.glo_ok X G h1, xcB_ok h2, fun f hf => of_decide_eq_true (List.all_eq_true.mp h4 f (List.contains_iff_mem.mp hf))⟩
  · exact ⟨_, He.glo_ok X G (List.all_eq_true.mp c2 y (List.contains_iff_mem.mp hy))⟩
  · obtain ⟨h1, h2⟩ := He.ba (List.all_eq_true.mp c3 ((k, y), b) (look_mem z))
    obtain ⟨h2, h3⟩ := He.ba h2
    obtain ⟨h3, h4⟩ := He.ba h3
    refine ⟨h1, fun C D hC hD => ?_⟩
    have g1 := He.glo_ok X G (He.ba (List.all_eq_true.mp c1 k (List.contains_iff_mem.mp h1))).1
    have g2 := He.glo_ok X G (List.all_eq_true.mp c2 y (List.contains_iff_mem.mp h2))
    rw [hC] at g1
    rw [hD] at g2
    cases g1
    cases g2
    exact ⟨of_decide_eq_true h3, of_decide_eq_true h4⟩
theorem exB_ini {P : Program} {w : World} {base : Heap} (X : K.In h) (G : h.Ns mainGlobals mg) (c : exB cs ys fs tab K = true) {x : Str} {ns ps : List Str} {fd : FuncData} (hx : cs.contains x = true)
    (F1 : ∀ C, mg x = some (.ref C) → XcC K C → (∀ f, fs.contains f = true → PySem.W.findIn K (.ref C) f = some none) → FnOk P w K mg base CX0 1 (He.fAd K (x, some "__init__")) fd ps (spI C ns)) (hb : Binds K fd ps []) : ExT P w K mg base x ns := by
  obtain ⟨c1, _⟩ := He.ba c
  obtain ⟨h1, h2⟩ := He.ba (List.all_eq_true.mp c1 x (List.contains_iff_mem.mp hx))
  obtain ⟨h2, h3⟩ := He.ba h2
  obtain ⟨h3, h4⟩ := He.ba h3
  obtain ⟨h5, h6⟩ := He.ba h3
  have g1 := He.glo_ok X G h1
  have x1 := xcB_ok h2
  exact ⟨_, _, fd, ps, g1, x1.ox, of_decide_eq_true h5, of_decide_eq_true h6, F1 _ g1 x1 fun f hf => of_decide_eq_true (List.all_eq_true.mp h4 f (List.contains_iff_mem.mp hf)), hb⟩
end
def obsX (fa : List He.Fa) (fn : List He.DefD) (ex : PySem.W.Frag → Bool) (K : PySem.W.Frag) : He.AlD × Bool := (He.obsD fa fn K, ex K)
def obsXG (n : Nat) (fa : List He.Fa) (fn : List He.DefD) (ex : PySem.W.Frag → Bool) (g : Addr → Option Obj) : He.AlD × Bool := obsX fa fn ex (He.frG g (He.asD g n))
def SaysX (fa : List He.Fa) (fn : List He.DefD) (ex : PySem.W.Frag → Bool) (K : PySem.W.Frag) : Prop := obsX fa fn ex K = (He.valD fn, true)
def hookX (n : Nat) (fa : List He.Fa) (fn : List He.DefD) (ex : PySem.W.Frag → Bool) : PySem.W.Hook where
  α := He.AlD × Bool
  obs := fun s => obsXG n fa fn ex s.heap.get?
  val := fun _ => (He.valD fn, true)
  says := fun _ h => ∃ K : PySem.W.Frag, K.In h ∧ SaysX fa fn ex K
  of := fun _ _ e => ⟨_, He.frG_in, e⟩
  keeps := fun _ _ _ ⟨K, hK, c⟩ k => ⟨K, PySem.W.Frag.In.keeps hK k, c⟩
theorem obsXG_eq {n : Nat} {fa : List He.Fa} {fn : List He.DefD} {ex : PySem.W.Frag → Bool} {g : Addr → Option Obj} {s : Shared} (h : ∀ a, g a = s.heap.get? a) : obsXG n fa fn ex g = (hookX n fa fn ex).obs s := by
  have e : g = s.heap.get? := funext h
  subst e
  rfl
theorem SaysX.d {fa : List He.Fa} {fn : List He.DefD} {ex : PySem.W.Frag → Bool} {K : PySem.W.Frag} (c : SaysX fa fn ex K) : He.SaysD fa fn K := congrArg Prod.fst c
theorem SaysX.x {fa : List He.Fa} {fn : List He.DefD} {ex : PySem.W.Frag → Bool} {K : PySem.W.Frag} (c : SaysX fa fn ex K) : ex K = true := congrArg Prod.snd c
end DL
namespace DL
open PySem PySem.Spec PyProof.Rows L2
/-- a class's j-th statement -/
def inCls (s : Stmt) (j : Nat) : Stmt := match s with
  | .ClassDef _ _ _ b _ _ _ _ _ _ _ => b.getD j (.Pass ⟨0, 0, 0, 0⟩)
  | _ => .Pass ⟨0, 0, 0, 0⟩
section
variable {X : Cx} {W : WX} {st : Stmt} {f : Fsx}
def x_fz (j : Nat) (f : Fsx) : Fsx := fun e => f (fzE j e)
theorem SDX.fz (j : Nat) (h : SDX X W st f) (hj : j ≠ 0 := by decide) : SDX X W st (x_fz j f) := by
  refine ⟨ps_imp h.run fun D σ H ⟨m, E, G0, G, e, o, R, q, P⟩ => ?_⟩
  obtain ⟨G', s, R'⟩ := R.fz hj
  exact ⟨m, E, G0, G', _, o, R', q, P.aft s⟩
end
section
variable {P : Program} {w : World} {K : PySem.W.Frag} {mg : Str → Option Value} {base : Heap} {x qual : Str} {params : Arguments} {body : List Stmt} {scope : Scope} {dvs dvs' : List V} {kws : List (Str × V)} {f : Addr} {fd : FuncData} {k : Nat} {sp : Sp} {ps : List Str}
theorem kfX (F : FunD K x qual params body scope dvs kws f fd) (ok : FnOk P w K mg base (L2N.CX P w) k f fd ps sp) (g : mg x = some (.ref f)) (b : ∃ ds, Vals dvs' ds ∧ Binds K fd ps ds) : KfX P w K mg base k x sp dvs' := by
  obtain ⟨ds, h1, h2⟩ := b
  exact ⟨f, fd, ps, ds, ok, g, F.kp, h2, h1⟩
theorem kfXN (F : FunD K x qual params body scope [] kws f fd) (ok : FnOk P w K mg base (L2N.CX P w) k f fd ps sp) (g : mg x = some (.ref f))
    (h : ∀ (kV doc pm : Value) (an : Option Addr) (cdv ct : Value) (us : List Value), us.length = ps.length → bindArgs (PySem.W.fnOf x qual params body scope .none kV doc pm an cdv ct) ⟨us, []⟩ = pure (ps.zip us)) : KfX P w K mg base k x sp [] :=
  kfX F ok g ⟨[], .nil, F.bindsN h⟩
end
end DL
namespace DL
open PySem PySem.Spec PyProof.Rows L2
def blB (l : List (Str × String)) (K : PySem.W.Frag) : Bool := l.all fun p => decide (PySem.W.nsIn K mainGlobals p.1 = some (some (.builtin p.2)))
end DL
namespace DL
open L2 PySem PySem.Spec PySem.W PyProof.Rows
def bD : Option Rs → Option Bool
  | some (.im (.bool b)) => some b
  | _ => none
def iD : Option Rs → Option Int
  | some (.im (.int i)) => some i
  | _ => none
def vD : Option Rs → Option PyData
  | some (.im d) => some d
  | _ => none
theorem bD_ok {o : Option Rs} {b : Bool} (h : bD o = some b) : o = some (.im (.bool b)) := by
  unfold bD at h
  split at h
  · cases h
    rfl
  · cases h
theorem iD_ok {o : Option Rs} {i : Int} (h : iD o = some i) : o = some (.im (.int i)) := by
  unfold iD at h
  split at h
  · cases h
    rfl
  · cases h
theorem vD_ok {o : Option Rs} {d : PyData} (h : vD o = some d) : o = some (.im d) := by
  unfold vD at h
  split at h
  · cases h
    rfl
  · cases h
theorem bD_lt (i j : Int) : bD (q_lt (.int i) (.int j)) = some (decide (i < j)) := by rw [e_qlt]; rfl
theorem bD_gt (i j : Int) : bD (q_gt (.int i) (.int j)) = some (decide (j < i)) := by rw [e_qgt]; rfl
theorem bD_eq {α : Type} [DecidableEq α] {f : α → PyData} [E : EqE f] (h : E.d ≤ 64) (a b : α) : bD (p_eq (f a) (f b)) = some (decide (a = b)) := by rw [o_eq h]; rfl
end DL
namespace DL
open L2 PySem PySem.Spec PySem.W PyProof.Rows
section
variable {l : Addr} {items : Array Value} {n : Nat} {dd : Option Addr} {sl : Array (Option Value)} {u : Tok} {x : Int}
theorem tm_none (c0 : (decide (x < -(2 ^ 63)) || decide (x ≥ 2 ^ 63)) = false) (c1 : (items.isEmpty || x == 1) = false) (c2 : (decide (x ≤ 0) || items.isEmpty) = true) : Meets (Builtin.«tuple.__mul__» ⟨[.ref l, .int x u], []⟩) (fun _ R s => s.heap.get? l = some { cls := .type "tuple", dict := dd, data := .seq items n, slots := sl } ∧
    R (.ok (.ret (.ref s.heap.objs.size))) { s with heap := s.heap.push { cls := Value.type "tuple", data := Data.seq #[] }, toks := s.toks }) :=
  .of_wp fun prog w A R s h => by
    obtain ⟨hp, g, d, tk, os⟩ := s
    obtain ⟨hl, k⟩ := h
    have ix := AutoSeq1.idx_int
    wp_walk using wpAny_loadPart' hl
    repeat (first
      | (refine wpAny_ite_false (decide_eq_false (by rw [c0]; exact Bool.false_ne_true)) ?_; wp_walk using wpAny_loadPart' hl)
      | (refine wpAny_ite_false (decide_eq_false (by rw [c1]; exact Bool.false_ne_true)) ?_; wp_walk using wpAny_loadPart' hl)
      | (refine wpAny_ite_true (by rw [c2]; rfl) ?_; wp_walk using wpAny_loadPart' hl)
      | (refine wpAny_ite_true (by rw [c2]) ?_; wp_walk using wpAny_loadPart' hl))
    exact ⟨_, rfl, k⟩
end
end DL
namespace DL
open PySem PySem.Spec PySem.W PyProof.Rows L2 Calls SeqAt
section
variable {prog : Program} {w : World} {A : Around} {E : Value → Shared → Prop} {s : Shared}
/-- tuple's own __lt__ -/
theorem oneLt_two {xs ys : List PyData} {a b : Value} {as bs : List Addr} {Q : Bool → Shared → Prop} (ra : Reads s.heap a (.tuple xs) as) (rb : Reads s.heap b (.tuple ys) bs) (hal : alikeAll xs ys = true)
    (hu : A.units + min (PyData.tuple xs).depth (PyData.tuple ys).depth < cLine) (hq : Q (dataLt (.tuple xs) (.tuple ys)) s) : wpAny (model prog w) A (oneLt' true a b) Q E s := by
  cases ra with
  | @tuple p o vs n _ _ h1 h2 h3 h4 =>
    cases rb with
    | @tuple p2 o2 vs2 n2 _ _ k1 k2 k3 k4 =>
      have e1 : vs.size = xs.length := by simpa using ReadsAll.length _ _ _ h4
      have e2 : vs2.size = ys.length := by simpa using ReadsAll.length _ _ _ k4
      rw [dataLt_tuple, ← firstLt_toks xs ys hal, ← e1, ← e2] at hq
      obtain ⟨cls, dd, data, sl⟩ := o
      obtain ⟨cls2, dd2, data2, sl2⟩ := o2
      dsimp only at h2 h3 k2 k3
      subst h2 h3 k2 k3
      rw [oneLt'_eq]
      simp only [if_true]
      refine wpAny_bind (wpAny_cRoomFor (room_here hu) (wpAny_bind (wpAny_callSpecialIfBound?_slot (T := "tuple") ⟨_, h1, rfl⟩ F.slot_tuple_lt ?_)))
      refine call_meets F.slot_tuple_lt ⟨_, h1, rfl⟩ F.entry_tuple_lt (F.args_tuple_lt_2 _ _) (tuple_ltAt p p2 vs vs2 n n2 dd dd2 sl sl2 (pairEq xs ys) fun j => dataLt (xs.getD j .none) (ys.getD j .none)) ⟨h1, k1, fun j j1 j2 => ?_, fun j j1 j2 hj => ?_, ?_⟩
      · have z := eqAt_alikeAll xs ys A.in1 s vs.toList vs2.toList _ _ h4 k4 hal (room_in hu) j (by simpa using j1) (by simpa using j2)
        simpa using z
      · have z := rcLt_alikeAll xs ys A.in1 s vs.toList vs2.toList _ _ h4 k4 hal (room_in hu) j (by simpa using j1) (by simpa using j2) hj
        simpa using z
      · exact wpAny_truthy_bool hq
/-- the first items of tuples -/
theorem firsts_mix {M : Model} : ∀ (vs : List Value) (ks : List (List Int)) {Q : List (Option Value) → Shared → Prop}, EachIs (fun v k => ∃ as, Reads s.heap v (tI k) as) vs ks → (∀ L : List (Option Value), L.map Option.isSome = ks.map (fun k => !k.isEmpty) → Q L s) → wpAny M A (vs.mapM firstOfTuple') Q E s
  | _, _, Q, .nil, h => by
    rw [List.mapM_nil]
    exact wpAny_pure (h [] rfl)
  | v :: vs, k :: ks, Q, .cons r t, h => by
    obtain ⟨as, r⟩ := r
    cases r with
    | @tuple p o xs n _ _ h1 h2 h3 h4 =>
      rw [List.mapM_cons]
      refine wpAny_bind ?_
      rw [kas_first_eq]
      refine wpAny_bind (Looks.here (show Looks M s.heap (typeOf (.ref p)) o.cls from (Looks.ld h1).andThen .now) ?_)
      rw [h2, if_neg (by first | decide | simp)]
      refine wpAny_bind (listItems_at h1 h3 (wpAny_pure ?_))
      refine wpAny_bind (firsts_mix vs ks t fun L hL => wpAny_pure (h (xs[0]? :: L) ?_))
      rw [List.map_cons, List.map_cons, hL]
      congr 1
      have e : xs.size = (k.map PyData.int).length := by simpa using ReadsAll.length _ _ _ h4
      rw [List.length_map] at e
      cases k with
      | nil =>
        have z : xs[0]? = none := Array.getElem?_eq_none (by rw [e]; exact Nat.le_refl _)
        rw [z]
        rfl
      | cons i k =>
        have l0 : 0 < xs.size := by
          rw [e]
          exact Nat.succ_pos _
        rw [Array.getElem?_eq_getElem l0]
        rfl
def mixKind (ks : List (List Int)) : SortKind := match ks with
  | [] :: _ => oneType'
  | _ => general'
theorem kind_mix {M : Model} {vs : List Value} {ks : List (List Int)} {Q : SortKind → Shared → Prop} (e : EachIs (fun v k => ∃ as, Reads s.heap v (tI k) as) vs ks) (h2 : 2 ≤ vs.length) (hk : (ks.all fun k => !k.isEmpty) = false) (h : Q (mixKind ks) s) : wpAny M A (keyKind' vs.toArray) Q E s := by
  rw [kat_kind_eq, List.mapM_toArray, map_eq_pure_bind]
  refine wpAny_bind (wpAny_bind (firsts_mix vs ks e fun L hL => wpAny_pure ?_))
  have a1 : (L.toArray.all fun x => x.isSome) = false := by
    have z : (L.map Option.isSome).all id = (ks.map fun k => !k.isEmpty).all id := by rw [hL]
    rw [List.all_map, List.all_map] at z
    rw [List.all_toArray]
    exact z.trans hk
  rw [if_neg (by rw [a1]; exact Bool.false_ne_true)]
  have looks : ∀ v ∈ vs, Looks M s.heap (typeOf v) (.type "tuple") := fun v hv => by
    obtain ⟨k, _, as, r⟩ := e.left v hv
    exact looks_reads r
  match ks, L, hL, h with
  | [], _, _, _ => cases hk
  | [] :: ks, x :: L, hL, h =>
    have hx : x = none := by
      have := (List.cons.inj hL).1
      cases x with
      | none => rfl
      | some y => cases this
    subst hx
    rw [if_neg (by simp)]
    rw [oneTypeOnly'_eq, List.mapM_toArray, map_eq_pure_bind]
    refine wpAny_bind (wpAny_bind (wpAny_bind (kas_mapM (r := .type "tuple") _ (fun v hv Q' hq => (looks v hv).here hq) (wpAny_pure ?_))))
    have all : ((List.map (fun _ => Value.type "tuple") vs).toArray.all fun x => x == Value.type "tuple") = true := by
      simp only [List.all_toArray, List.all_map, List.all_eq_true]
      exact fun _ _ => beq_self_eq_true _
    have at0 : (List.map (fun _ => Value.type "tuple") vs).toArray[0]? = some (.type "tuple") := by
      cases vs with
      | nil => exact absurd h2 (by decide)
      | cons v vs => rfl
    rw [at0]
    simp only [all, if_true]
    exact wpAny_pure (wpAny_pure h)
  | (i :: k) :: ks, x :: L, hL, h =>
    obtain ⟨y, rfl⟩ : ∃ y, x = some y := by
      have := (List.cons.inj hL).1
      cases x with
      | none => cases this
      | some y => exact ⟨y, rfl⟩
    rw [if_pos (by simp)]
    exact wpAny_pure h
theorem sorts_mix {vs : List Value} {ks : List (List Int)} (e : EachIs (fun v k => ∃ as, Reads s.heap v (tI k) as) vs ks) (hk : (ks.all fun k => !k.isEmpty) = false) (hu : ∀ k, k ∈ ks → A.units + (tI k).depth < cLine) : SortsAt prog w A s (dataKind s.heap (ks.map tI)) vs := by
  have hal : AllAlike (ks.map tI) := AllAlike.of alike_tI
  have e' : EachIs (fun v d => ∃ as, Reads s.heap v d as) vs (ks.map tI) := each_map (R := fun v d => ∃ as, Reads s.heap v d as) tI e
  refine ⟨fun v hv => ?_, mixKind ks, ?_, fun h2 E Q hq => kind_mix e h2 hk hq⟩
  · obtain ⟨d, hd, as, r⟩ := e'.left v hv
    exact ⟨_, dataKind_some hal hd r⟩
  · intro E x y a b Q ha hb hq
    obtain ⟨d, as, hd, ra, rfl⟩ := dataKind_inv ha
    obtain ⟨d', as', hd', rb, rfl⟩ := dataKind_inv hb
    obtain ⟨k, mk, rfl⟩ := List.mem_map.mp hd
    obtain ⟨k', mk', rfl⟩ := List.mem_map.mp hd'
    have hdd := hal _ hd _ hd'
    have room : A.units + min (tI k).depth (tI k').depth < cLine := Nat.lt_of_le_of_lt (Nat.add_le_add_left (Nat.min_le_left _ _) _) (hu k mk)
    have hq' : Q (dataLt (tI k) (tI k')) s := hq
    have one : wpAny (model prog w) A (oneLt' true x y) Q E s := oneLt_two ra rb (by simpa [tI, alike] using hdd) room hq'
    have gen : wpAny (model prog w) A (oneLt' false x y) Q E s := oneLt_alike (fun z => by cases z) ra rb hdd (by intro z; cases z) room hq'
    unfold mixKind
    split
    · exact one
    · exact gen
end
section
variable {X : Cx}
def rSortM (K : PySem.W.Frag) : List V → Hp → VK → Prop := fun vs H Q => ∃ (G : Hp) (a : Addr) (ws : List V) (ks : List (List Int)), Same G H ∧ vs = [.ref a] ∧ SqL K H a ws ∧ DpAll K G ws (ks.map tI) ∧ (ks.all fun k => !k.isEmpty) = false ∧
  ∀ ys p, DpAll K G ys ((upT ks).map tI) → H p = none → Q (.ref p) (upd H p (.lst ys))
theorem cr_sortM (hu : X.A.units + 64 < cLine) : CallR X (.builtin "sorted") (rSortM X.K) := by
  rintro pins s σ H vs us Q I r ⟨G, a, ws, ks, sg, rfl, hs, hd, ok, q⟩
  obtain ⟨its, rv, pl, hz⟩ := I.list hs
  rw [Vals.ref1 r]
  have e := isK_all hd rv
  have hl : its.length ≤ sizeLine := by
    rw [← rv.length]
    exact hz
  have er := (isK_reads I sg e).mono fun v k (h : ∃ as, Reads s.heap v (tI k) as) => (⟨h.choose, PyProof.Rows.Reads.keeps (fun _ _ => sorting_copy_old) h.choose_spec⟩ : ∃ as, Reads (sortingHeap (copyHeap s.heap its) (s.heap.objs.size + 1) its) v (tI k) as)
  refine sorted_vals pl.isList (sorts_mix (s := { s with heap := sortingHeap (copyHeap s.heap its) (s.heap.objs.size + 1) its }) er ok fun k _ => ?_) hl ?_
  · have := depth_tI k
    show X.A.units + 2 + _ < _
    omega
  · have eo := sortVals_data false e er (AllAlike.of alike_tI)
    rw [dataLe_tups] at eo
    obtain ⟨ys, r2, d2⟩ := isK_back eo
    obtain ⟨c, hat⟩ := sortedAll_at s.heap its (List.toArray (sortVals (dataKind (sortingHeap (copyHeap s.heap its) (s.heap.objs.size + 1) its) (ks.map tI)) false its its))
    have hl2 : ys.length ≤ sizeLine := by
      have z := (upT_perm ks).length_eq
      unfold upT at z
      rw [dpAll_len d2, List.length_map, z, ← e.length]
      exact hl
    exact ⟨.ref _, upd H (s.heap.objs.size + 1) (.lst ys), I.laid (t' := s.toks) (fun _ _ => sortedAll_old) (Nat.le_succ _) ⟨hl2, _, c, r2, hat⟩, rfl, q ys _ d2 (I.hok.fresh (Nat.le_succ _))⟩
end
def c_sortedM : List PyData → Option Rs
  | [.list ds] => (match unT ds with
    | some ks => if (ks.all fun k => !k.isEmpty) = false then some (.ac ((upT ks).map tI)) else none
    | none => none)
  | _ => none
theorem vc_sortedM {K : PySem.W.Frag} : VC K (rSortM K) c_sortedM := by
  intro m E G0 G e σ H vs ds rr Q R l q P
  unfold c_sortedM at q
  split at q
  · split at q
    · rename_i ks h
      split at q
      · rename_i ok
        cases q
        rw [unT_ok h] at l
        obtain ⟨v, rfl, lv⟩ := lv1 l
        obtain ⟨p, ws, rfl, s1, k⟩ := lv.list R.gh
        refine ⟨G, p, ws, ks, R.gh, rfl, s1, k, ok, fun ys p2 d hp => ?_⟩
        obtain ⟨R', S', V', N'⟩ := R.newL hp d
        exact P _ _ _ R' S' V' N'
      · cases q
    · cases q
  · cases q
def c_sortedB : List PyData → Option Rs := orC c_sortedA c_sortedM
theorem vc_sortedB {K : PySem.W.Frag} : VC K (fun vs H Q => (rSortedI K vs H Q ∨ rSortTL K vs H Q) ∨ rSortM K vs H Q) c_sortedB := VC.or vc_sortedA vc_sortedM
theorem cr_sortedB {X : Cx} (hu : X.A.units + 64 < cLine) : CallR X (.builtin "sorted") (fun vs H Q => (rSortedI X.K vs H Q ∨ rSortTL X.K vs H Q) ∨ rSortM X.K vs H Q) := CallR.or (cr_sortedA hu) (cr_sortM hu)
theorem o_sortedBI {l : List Int} : c_sortedB [ls PyData.int l] = some (.ac ((upI l).map PyData.int)) := by
  unfold c_sortedB orC
  rw [o_sortedL]
end DL
namespace DL
open L2 PySem PySem.Spec PySem.W PyProof.Rows
abbrev p1 {α : Type} (f : α → PyData) (x : α) : PyData := .tuple [f x]
abbrev p5 {α β γ δ ε : Type} (f : α → PyData) (g : β → PyData) (h : γ → PyData) (k : δ → PyData) (l : ε → PyData) (x : α × β × γ × δ × ε) : PyData := .tuple [f x.1, g x.2.1, h x.2.2.1, k x.2.2.2.1, l x.2.2.2.2]
instance {α : Type} {f : α → PyData} : Nn (p1 f) := ⟨fun _ => ⟨rfl, rfl⟩⟩
instance {α : Type} [DecidableEq α] {f : α → PyData} [E : EqE f] : EqE (p1 f) := ⟨E.d + 1, fun a => by simp [PyData.canLay0, PyData.canLayAll0, E.can], fun a => by
    rw [PyData.depth, PyData.depthAll, PyData.depthAll]
    have := E.dep a
    omega, fun a b => by
    rw [PyData.eqv, PyData.eqvAll, PyData.eqvAll, E.eqv]
    exact Bool.and_true _⟩
end DL
namespace DL
open L2 PySem PySem.Spec PySem.W PyProof.Rows
def valD (kvs : List (Key × PyData)) (k : Key) : Option PyData := (kvs.find? fun kv => decide (kv.1 = k)).map (·.2)
section
variable {K : PySem.W.Frag} {G : Hp} {v : V} {d : PyData} {k : Key}
theorem Dkv.same {G' : Hp} {ws : List (Key × V)} {kvs : List (Key × PyData)} (q : Dkv K G ws kvs) (s : Same G G') : Dkv K G' ws kvs := ⟨q.1, dpAll_same s q.2⟩
end
end DL
namespace DL
open L2 PySem PySem.Spec PySem.W PyProof.Rows
end DL
namespace DL
open L2 PySem PySem.Spec PySem.W PyProof.Rows
section
variable {α β γ δ ε ζ : Type}
abbrev q2 (f : α → PyData) (g : β → PyData) (x : α × β) : List PyData := [f x.1, g x.2]
abbrev q3 (f : α → PyData) (g : β → PyData) (h : γ → PyData) (x : α × β × γ) : List PyData := [f x.1, g x.2.1, h x.2.2]
abbrev q4 (f : α → PyData) (g : β → PyData) (h : γ → PyData) (k : δ → PyData) (x : α × β × γ × δ) : List PyData := [f x.1, g x.2.1, h x.2.2.1, k x.2.2.2]
abbrev q5 (f : α → PyData) (g : β → PyData) (h : γ → PyData) (k : δ → PyData) (l : ε → PyData) (x : α × β × γ × δ × ε) : List PyData := [f x.1, g x.2.1, h x.2.2.1, k x.2.2.2.1, l x.2.2.2.2]
end
end DL
namespace DL
open L2 PySem PySem.Spec PySem.W PyProof.Rows
section
variable {l : Addr} {items : Array Value} {n : Nat} {dd : Option Addr} {sl : Array (Option Value)} {u : Tok} {x : Int}
theorem tm_self (c0 : (decide (x < -(2 ^ 63)) || decide (x ≥ 2 ^ 63)) = false) (c1 : (items.isEmpty || x == 1) = true) : Meets (Builtin.«tuple.__mul__» ⟨[.ref l, .int x u], []⟩) (fun _ R s => s.heap.get? l = some { cls := .type "tuple", dict := dd, data := .seq items n, slots := sl } ∧ R (.ok (.ret (.ref l))) s) :=
  .of_wp fun prog w A R s h => by
    obtain ⟨hp, g, d, tk, os⟩ := s
    obtain ⟨hl, k⟩ := h
    have ix := AutoSeq1.idx_int
    wp_walk using wpAny_loadPart' hl
    repeat (first
      | (refine wpAny_ite_false (decide_eq_false (by rw [c0]; exact Bool.false_ne_true)) ?_; wp_walk using wpAny_loadPart' hl)
      | (refine wpAny_ite_true (by rw [c1]; rfl) ?_; wp_walk using wpAny_loadPart' hl)
      | (refine wpAny_ite_true (by rw [c1]) ?_; wp_walk using wpAny_loadPart' hl))
    exact ⟨_, rfl, k⟩
end
def rRepB (K : PySem.W.Frag) : R2 := fun x y H Q => ∃ l k xs, x = .ref l ∧ y = .int k ∧ SqT K H l xs ∧ -1000000 ≤ k ∧ k ≤ 1000 ∧ xs.length ≤ 1000 ∧
  ((xs = [] ∨ k = 1) → Q (.ref l) H) ∧ (xs ≠ [] → k ≤ 0 → ∀ p, H p = none → Q (.ref p) (upd H p (.tup []))) ∧ (xs ≠ [] → 2 ≤ k → ∀ p, H p = none → Q (.ref p) (upd H p (.tup (List.replicate k.toNat xs).flatten)))
section
variable {X : Cx}
theorem op_repB : OpR X (binaryOp .Mult) (rRepB X.K) := by
  intro pins s σ H x y v u Q I rx ry h
  obtain ⟨l, k, xs, rfl, rfl, hT, hk, h2, hz, q1, q2, q3⟩ := h
  by_cases big : xs ≠ [] ∧ 2 ≤ k
  · exact op_repT pins s σ H _ _ v u Q I rx ry ⟨l, k, xs, rfl, rfl, hT, big.1, big.2, h2, hz, q3 big.1 big.2⟩
  cases rx
  obtain ⟨t, rfl⟩ := ry
  obtain ⟨its, r, ⟨⟨cls, dd, data, sl⟩, ho, hc, n, hd⟩, hs⟩ := I.tuple hT
  simp only at hc hd
  subst hc hd
  have hle : its.length = xs.length := r.length.symm
  have c0 : (decide (k < -(2 ^ 63)) || decide (k ≥ 2 ^ 63)) = false := by
    rw [decide_eq_false (by omega), decide_eq_false (by omega)] <;> rfl
  have road : ∀ {Rz : Result → Shared → Prop}, wpAny (model X.prog X.w) X.A (call (.builtin "tuple.__mul__") [.ref l, .int k t]) (EP X pins σ Q) X.xe s → wpAny (model X.prog X.w) X.A (binaryOp .Mult (.ref l) (.int k t)) (EP X pins σ Q) X.xe s := fun z =>
    wpAny_binaryOp_repeat_ref (T := "tuple") (U := "int") (by decide) ⟨_, ho, rfl⟩ (fun s' => typeIs_int s' k t) noFill_tuple_mul F.fills_int_mul F.slot_int_rmul repeat_tuple F.slot_int_index.lookup
      (call_meets F.slot_int_rmul (typeIs_int s k t) F.entry_int_rmul (F.args_int_rmul_2 _ _) (int_rmul_tuple k t l its.toArray n dd sl) ⟨ho, rfl, ⟨_, ho, rfl⟩, z⟩)
  by_cases e1 : xs = [] ∨ k = 1
  · have c1 : (its.toArray.isEmpty || k == 1) = true := by
      rcases e1 with e1 | e1
      · have : its = [] := List.eq_nil_of_length_eq_zero (by rw [hle, e1]; rfl)
        rw [this]
        rfl
      · rw [e1]
        simp
    refine road (Rz := fun _ _ => True) (call_meets F.slot_tuple_mul ⟨_, ho, rfl⟩ F.entry_tuple_mul (F.args_tuple_mul_2 _ _) (tm_self (l := l) (items := its.toArray) (n := n) (dd := dd) (sl := sl) (u := t) (x := k) c0 c1) ⟨ho, ?_⟩)
    exact ⟨.ref l, H, I, rfl, q1 e1⟩
  · have e2 : xs ≠ [] := fun z => e1 (.inl z)
    have e3 : k ≠ 1 := fun z => e1 (.inr z)
    have e4 : k ≤ 0 := by
      by_cases z : k ≤ 0
      · exact z
      · exact absurd ⟨e2, by omega⟩ big
    have hi : its.toArray.isEmpty = false := by
      cases its with
      | nil => exact absurd (List.eq_nil_of_length_eq_zero (by rw [← hle]; rfl)) e2
      | cons a b => rfl
    have c1 : (its.toArray.isEmpty || k == 1) = false := by
      rw [hi, Bool.false_or]
      exact beq_eq_false_iff_ne.mpr e3
    have c2 : (decide (k ≤ 0) || its.toArray.isEmpty) = true := by
      rw [decide_eq_true e4]
      rfl
    refine road (Rz := fun _ _ => True) (call_meets F.slot_tuple_mul ⟨_, ho, rfl⟩ F.entry_tuple_mul (F.args_tuple_mul_2 _ _) (tm_none (l := l) (items := its.toArray) (n := n) (dd := dd) (sl := sl) (u := t) (x := k) c0 c1 c2) ⟨ho, ?_⟩)
    refine ⟨.ref s.heap.objs.size, _, I.laid (t' := s.toks) (o := .tup []) (fun b ob q => Heap.get?_push_of_some _ q) (Nat.le_refl _) ?_, rfl, q2 e2 e4 _ (I.hok.fresh (Nat.le_refl _))⟩
    exact ⟨Nat.zero_le _, _, .nil, IsTup.new _ _⟩
def q_repT : PyData → PyData → Option Rs
  | .tuple ds, .int k => if -1000000 ≤ k ∧ k ≤ 1000 ∧ ds.length ≤ 1000 then some (.im (.tuple (List.replicate k.toNat ds).flatten)) else none
  | _, _ => none
def p_repT : PyData → PyData → Option Rs := q_repT
theorem vb_repT {K : PySem.W.Frag} : VB K (rRepB K) p_repT := by
  intro m E G0 G e σ H x y dx dy rr Q R lx ly q P
  unfold p_repT q_repT at q
  split at q
  · rename_i ds k
    by_cases z : -1000000 ≤ k ∧ k ≤ 1000 ∧ ds.length ≤ 1000
    · rw [if_pos z] at q
      cases q
      have dx : Dp K G x (.tuple ds) := by
        rcases lx with h | ⟨_, _, _, _, h, _⟩
        · exact h
        · cases h
      obtain ⟨p1, w1, e1, s1, k1⟩ := lx.tup R.gh
      have e2 := ly.int
      subst e1 e2
      have hl := dpAll_len k1
      refine ⟨p1, k, w1, rfl, rfl, s1, z.1, z.2.1, by rw [hl]; exact z.2.2, fun h => ?_, fun h1 h2 p hp => ?_, fun _ _ p hp => ?_⟩
      · have e : (List.replicate k.toNat ds).flatten = ds := by
          rcases h with h | h
          · subst h
            cases k1
            rw [List.flatten_replicate_nil]
          · subst h
            simp
        rw [e] at P
        exact P _ _ _ R Stp.refl dx True.intro
      · have e : (List.replicate k.toNat ds).flatten = [] := by
          have : k.toNat = 0 := by omega
          rw [this]
          rfl
        rw [e] at P
        obtain ⟨R', S', D'⟩ := R.newT (ws := []) (ds := []) hp .nil
        exact P _ _ _ R' S' D' True.intro
      · obtain ⟨R', S', D'⟩ := R.newT hp (dpAll_rep k1 k.toNat)
        exact P _ _ _ R' S' D' True.intro
    · rw [if_neg z] at q
      cases q
  · cases q
end
def repTO {α : Type} (l : List α) (k : Int) : Option (List α) := if -1000000 ≤ k ∧ k ≤ 1000 ∧ l.length ≤ 1000 then some (List.replicate k.toNat l).flatten else none
theorem o_repT {α : Type} {f : α → PyData} {l m : List α} {k : Int} (h : repTO l k = some m) : p_repT (tp f l) (.int k) = some (.im (tp f m)) := by
  unfold repTO at h
  by_cases z : -1000000 ≤ k ∧ k ≤ 1000 ∧ l.length ≤ 1000
  · rw [if_pos z] at h
    cases h
    show (if -1000000 ≤ k ∧ k ≤ 1000 ∧ (l.map f).length ≤ 1000 then some (Rs.im (.tuple (List.replicate k.toNat (l.map f)).flatten)) else none) = _
    rw [List.length_map, if_pos z]
    show _ = some (Rs.im (.tuple (List.map f _)))
    rw [List.map_flatten, List.map_replicate]
  · rw [if_neg z] at h
    cases h
end DL
namespace DL
open L2 PySem PySem.Spec PySem.W PyProof.Rows
end DL
namespace DL
open L2 PySem PySem.Spec PySem.W PyProof.Rows
theorem _root_.L2H.RoomH.units {k : Nat} {A : Around} (r : L2H.RoomH k A) : A.units + 64 < cLine := by
  have := r.un
  omega
theorem hot_suite {X : Cx} {a dd C : Addr} {oe : Obj} {pn : List (Addr × Obj)} (hz : L2N.Zn (.ref C) (some dd) oe) (hf : ∃ vs, oe.data = .fields vs) : L2H.HotC (X.suite a ((a, oe) :: pn)) := by
  obtain ⟨vs, hv⟩ := hf
  exact ⟨(a, oe), ⟨rfl, vs, hv, hz.2.2 vs hv⟩, List.mem_cons_self ..⟩
theorem room_suite {X : Cx} {j : Nat} {a : Addr} {pn : List (Addr × Obj)} (hr : Room j X.A) : L2H.RoomH j (X.suite a pn).A := ⟨hr.dp, hr.un⟩
inductive KfH (P : Program) (w : World) (K : PySem.W.Frag) (mg : Str → Option Value) (base : Heap) (k : Nat) (x : Str) (sp : Sp) : Prop where
  | kept (at_ : Addr) (fd : FuncData) (names : List Str) (fn : L2H.FnH P w K mg base CX0 k at_ fd names sp) (here : mg x = some (.ref at_)) (stays : PySem.W.keepIn K (.ref at_) = true) (binds : Binds K fd names [])
section
variable {X : Cx} {k j n : Nat} {x : Str} {p pos : Pos} {a : Expr} {es : List Expr} {fa : Fa}
theorem ed_callH {φ : List PyData → Option Rs} (F : KfH X.prog X.w X.K X.mg X.base k x (spD X.K n φ)) (hr : L2H.RoomH j X.A) (hot : L2H.HotC X) (hk : k ≤ j) (hn : ∀ ds, (φ ds).isSome = true → ds.length = n) (h : AD X (a :: es) fa) (hg : Gl X x := by rfl)
    (hdb : (x == ("__debug__" : Str)) = false := by decide) (he : starEach (a :: es) X.env = (false, eval a X.env) :: starEach es X.env := by rfl) (hpl : (backTo pos (starEach es X.env)).any (·.1) = false := by rfl) :
    ED X (.Call (.Name x p) (a :: es) [] pos) (x_call φ [] fa) := by
  obtain ⟨f, fd, ps, F, hm, kp, hb⟩ := F
  obtain ⟨t, pa, kk⟩ := h
  refine ⟨_, L2H.pe_callH F (hr.mono hk) hot hg hm kp hb (E := fun _ => E0) (fun _ _ _ _ _ _ _ z => z.elim) pa hdb he hpl, ?_⟩
  intro m E G0 G e σ H r e' Q R q P
  have z := call_ok (dvs := []) (dds := []) (fun G => .nil) hn kk m E G0 G e σ H r e' Q R q P
  unfold tCall at z
  simp only [List.append_nil] at z
  exact z
end
section
variable {P : Program} {w : World} {K : PySem.W.Frag} {mg : Str → Option Value} {base : Heap} {x qual : Str} {params : Arguments} {body : List Stmt} {scope : Scope} {dvs : List V} {kws : List (Str × V)} {f : Addr} {fd : FuncData} {N ps : List Str} {k n nl : Nat} {g : Fs}
/-- what the body gives, out of what the def promises -/
theorem fn_read {X : Cx} {t : TS} {vs : List V} {H : Hp} {Q : VK} {E : XK} (hK : X.K = K) (hl : n + nl = N.length) (kt : ∀ (m : Option Addr) (E : Ef) (G0 G : Hp) (e : Ev) (σ : St) (H : Hp) (fl : Fl) (D : Ends), Rz X.K m E G0 G e σ H → g e = some fl → PoS X.K m E G0 G D fl → t D σ H)
    (h : spD K n (runF n nl g) vs H Q E) : t { nx := fun _ H' => Q .non H', rt := Q } (L2.start N vs) H := by
  subst hK
  obtain ⟨G, ds, r, s1, hd, hv, hr2, hQ⟩ := h
  have Rz0 : Rz X.K none (Ef.of H) G G (env0 ds nl) (L2.start N vs) H := rz_start s1 hd (by omega)
  unfold runF at hr2
  rw [if_pos (by rw [← dpAll_len hd]; exact hv)] at hr2
  split at hr2
  · rename_i r' e' h1
    refine kt none (Ef.of H) G G _ _ H _ _ Rz0 h1 fun v G' σ' H' s2 R' V' => ?_
    refine hQ v G' H' s2 R'.r.gh (fun a o z => R'.r.eh a o z (by simp)) R'.r.nw ?_
    unfold finR at hr2
    cases r' with
    | im d =>
      cases hr2
      exact V'
    | ac d =>
      cases hr2
      obtain ⟨p, ws, a1, a2, a3, a4, a5, _⟩ := V'
      exact ⟨p, ws, a1, a2, a3, a4, a5⟩
    | br i =>
      dsimp only at hr2
      split at hr2
      · rename_i d h2
        cases hr2
        obtain ⟨d', b1, b2⟩ := V'
        obtain ⟨p, ws, a1, a2, a3, a4, a5⟩ := R'.r.ac i d h2
        rw [a1] at b2
        cases b2
        have a5 : H p = none := by
          rcases a5 with a5 | a5
          · exact a5
          · cases a5.1
        exact ⟨p, ws, rfl, a5, a2, a3, a4⟩
      · cases hr2
  · rename_i e' h1
    cases hr2
    exact kt none (Ef.of H) G G _ _ H _ _ Rz0 h1 fun G' σ' H' s2 R' => hQ .non G' H' s2 R'.r.gh (fun a o z => R'.r.eh a o z (by simp)) R'.r.nw .non
  · cases hr2
theorem fnDH (F : FunD K x qual params body scope dvs kws f fd) (S : FnScope N ps scope) (hp : ps.length = n) (hl : n + nl = N.length)
    (hb : ∀ (cdv : Value) (A : Around) (outer : List Env) (s : Shared) (H : Hp) (E : XK) (p : Addr × Obj), L2H.RoomH k (A.deeper (envOfC qual scope s.heap.objs.size f cdv)) → L2H.HotC (L2H.cxH CX0 P w K mg base N qual scope f cdv A outer s H E p).nox → SsD (L2H.cxH CX0 P w K mg base N qual scope f cdv A outer s H E p).nox body g) :
    L2H.FnH P w K mg base CX0 (k + 1) f fd ps (spD K n (runF n nl g)) := by
  obtain ⟨oc, od, dV, kV, doc, pm, an, cdv, ct, osl, rfl, lk, hcd, _, _⟩ := F.ex
  refine L2H.fn_ofH lk hcd S (fun vs H Q E h => ?_) fun A outer s H vs Q E p hot hr h => ?_
  · obtain ⟨_, _, _, _, _, h, _⟩ := h
    rw [h, hp]
  · obtain ⟨t, pt, kt⟩ := hb cdv A outer s H E p hr ⟨p, hot, List.mem_singleton.mpr rfl⟩
    exact ⟨t, pt.nox, fn_read (K := K) rfl hl kt h⟩
theorem fnH_void {CX : CXT} : L2H.FnH P w K mg base CX k f fd ps (spD K n (fun _ => none)) := by
  refine ⟨fun _ _ _ _ h => (spD_void h).elim, ?_⟩
  intros
  exact (spD_void (by assumption)).elim
theorem kfHN {sp : Sp} (F : FunD K x qual params body scope [] kws f fd) (ok : L2H.FnH P w K mg base CX0 k f fd ps sp) (gm : mg x = some (.ref f))
    (h : ∀ (kV doc pm : Value) (an : Option Addr) (cdv ct : Value) (us : List Value), us.length = ps.length → bindArgs (PySem.W.fnOf x qual params body scope .none kV doc pm an cdv ct) ⟨us, []⟩ = pure (ps.zip us)) : KfH P w K mg base k x sp := ⟨_, _, _, ok, gm, F.kp, F.bindsN h⟩
end
end DL
namespace DL
open L2 PySem PySem.Spec PySem.W PyProof.Rows
end DL
namespace DL
open PySem PySem.Spec PySem.W PyProof.Rows L2
end DL
namespace DL
open PySem PySem.Spec PySem.W PyProof.Rows L2
def orRx (φ : List PyData → Option Rs) (ψ : List PyData → Option Ro) : List PyData → Option Ro := fun ds => match φ ds with
  | some r => some (.inl r)
  | none => ψ ds
theorem orRx_len {φ : List PyData → Option Rs} {ψ : List PyData → Option Ro} {n : Nat} (h : ∀ ds, (φ ds).isSome = true → ds.length = n) (k : ∀ ds, (ψ ds).isSome = true → ds.length = n) : ∀ ds, (orRx φ ψ ds).isSome = true → ds.length = n := fun ds q => by
  unfold orRx at q
  cases e : φ ds with
  | some r => exact h ds (by rw [e]; rfl)
  | none =>
    rw [e] at q
    exact k ds q
theorem orRx_of {φ : List PyData → Option Rs} {ψ : List PyData → Option Ro} {ds : List PyData} {r : Rs} (h : φ ds = some r) : orRx φ ψ ds = some (.inl r) := by
  unfold orRx
  rw [h]
theorem fn_orX {P : Program} {w : World} {K : PySem.W.Frag} {mg : Str → Option Value} {base : Heap} {k n : Nat} {f : Addr} {fd : FuncData} {ps : List Str} {φ : List PyData → Option Rs} {ψ : List PyData → Option Ro}
    (F : FnOk P w K mg base CX0 k f fd ps (spD K n φ)) (Y : FnOk P w K mg base (L2N.CX P w) k f fd ps (spX K mg n ψ)) : FnOk P w K mg base (L2N.CX P w) k f fd ps (spX K mg n (orRx φ ψ)) := by
  have two : ∀ {vs : List V} {H : Hp} {Q : VK} {E : XK}, spX K mg n (orRx φ ψ) vs H Q E → spD K n φ vs H Q E ∨ spX K mg n ψ vs H Q E := fun {vs H Q E} z => by
    obtain ⟨G, ds, o, a1, a2, a3, a4, a5, a6⟩ := z
    unfold orRx at a4
    cases e : φ ds with
    | some r =>
      rw [e] at a4
      cases a4
      exact .inl ⟨G, ds, r, a1, a2, a3, e, a5 r rfl⟩
    | none =>
      rw [e] at a4
      exact .inr ⟨G, ds, o, a1, a2, a3, a4, a5, a6⟩
  refine ⟨fun vs H Q E z => ?_, fun A outer s H args us vs Q E r e0 b v z => ?_⟩
  · rcases two z with z | z
    · exact F.len _ _ _ _ z
    · exact Y.len _ _ _ _ z
  · rcases two z with z | z
    · refine codeAny_mono (F.run A outer s H args us vs Q E r e0 b v z) fun q s' y => ?_
      match q, y with
      | .ok (.ret u), y => exact y
      | .error e, y => exact False.elim y
    · exact Y.run A outer s H args us vs Q E r e0 b v z
abbrev Fax := Ev → Option (Ex (List Rs × Ev))
def PoA (K : PySem.W.Frag) (mg : Str → Option Value) (m : Option Addr) (E : Ef) (G0 : Hp) (σ : St) (G H : Hp) (e : Ev) (W : WX) (Q : List V → Hp → Prop) : Ex (List Rs × Ev) → Prop
  | .inl (rs, e') => ∀ vs G' H', Rl K m E G0 G' e' σ H' → Stp σ G H e G' H' e' → VrAll K E G' H' σ e' vs rs → Q vs H'
  | .inr (x, e') => ∀ cls d G' H', Rl K m E G0 G' e' σ H' → Stp σ G H e G' H' e' → XcAt K mg G' cls d x → W cls d σ H'
def taX (K : PySem.W.Frag) (mg : Str → Option Value) (f : Fax) (W : WX) : TA := fun σ H Q => ∃ m E G0 G e o, Rl K m E G0 G e σ H ∧ f e = some o ∧ PoA K mg m E G0 σ G H e W Q o
structure ADX (X : Cx) (W : WX) (xs : List Expr) (f : Fax) : Prop where
  run : PA X xs (taX X.K X.mg f W)
theorem pa_imp {X : Cx} {xs : List Expr} {t u : TA} (h : PA X xs t) (k : ∀ σ H Q, u σ H Q → t σ H Q) : PA X xs u := ⟨fun pos pins s σ H Q I q => h.run pos pins s σ H Q I (k σ H Q q)⟩
section
variable {X : Cx} {W : WX} {a : Expr} {es : List Expr} {fx : Fex} {fa : Fa} {fr : Fax} {pos : Pos}
def xA (f : Fa) : Fax := fun e => (f e).map .inl
theorem AD.x (h : AD X es fa) : ADX X W es (xA fa) := by
  obtain ⟨t, p, k⟩ := h
  refine ⟨pa_imp p fun σ H Q ⟨m, E, G0, G, e, o, R, q, P⟩ => ?_⟩
  unfold xA at q
  cases h1 : fa e with
  | none => rw [h1] at q; cases q
  | some z =>
    obtain ⟨rs, e'⟩ := z
    rw [h1] at q
    cases q
    exact k m E G0 G e σ H rs e' Q R h1 P
def forGoX (γ : PyData → Ev → Option Ev) (S : List Nat) (fb : Fsx) : List PyData → Ev → Option (Ex Fl)
  | [], e => some (.inl (.nx e))
  | d :: ds, e => if okS S e = true then (match γ d e with
    | some e2 => (match fb e2 with
      | some (.inl (.nx e3)) => forGoX γ S fb ds e3
      | some (.inl (.ct e3)) => forGoX γ S fb ds e3
      | some (.inl (.bk e3)) => some (.inl (.nx e3))
      | some (.inl (.rt r e3)) => some (.inl (.rt r e3))
      | some (.inr y) => some (.inr y)
      | none => none)
    | none => none) else none
def x_for (fi : Fi) (γ : PyData → Ev → Option Ev) (S : List Nat) (fb : Fsx) : Fsx := fun e => match fi e with
  | some (ds, e1) => forGoX γ S fb ds e1
  | none => none
theorem sdx_for {tg it : Expr} {body : List Stmt} {fi : Fi} {S : List Nat} {γ : PyData → Ev → Option Ev} {fb : Fsx} (hc : X.calm = true) (hp : PassesOwn (model X.prog X.w) X.A X.env X.xe) (hi : ID X tg it fi) (hg : GD X tg S γ) (hb : SsDX X W body fb)
    (hs : ∀ x, foldedSetIterable it X.env x = pure x := by intro _; rfl) : SDX X W (.For tg it body [] pos) (x_for fi γ S fb) := by
  obtain ⟨wi, pi, ki⟩ := hi
  obtain ⟨g, pg, kg⟩ := hg
  refine ⟨ps_imp (ps_for hp hc pi pg hb.run hs) fun D σ H ⟨m, E, G0, G, e, fl, R, q, P⟩ => ?_⟩
  unfold x_for at q
  cases h1 : fi e with
  | none => simp only [h1] at q; cases q
  | some z =>
    obtain ⟨ds, e1⟩ := z
    simp only [h1] at q
    refine ki m E G0 G e σ H ds e1 _ R.r h1 fun J G1 H1 R1 S1 W1 => ?_
    let I : Nat → Nat → St → Hp → Prop := fun i mm σ H => ∃ G2 e2, mm = ds.length - i ∧ i ≤ ds.length ∧ Rz X.K m E G0 G2 e2 σ H ∧ Same G1 G2 ∧ forGoX γ S fb (ds.drop i) e2 = some fl
    refine ⟨I, ⟨ds.length, G1, e1, by simp, Nat.zero_le _, R.exp R1 S1, Same.refl _, by simpa using q⟩, ?_⟩
    rintro i mm σ2 H2 ⟨G2, e2, rfl, hi, R2, s2, lc⟩
    obtain ⟨wk, stop⟩ := W1 G2 H2 s2 R2.r.gh
    by_cases hlt : i < ds.length
    · have hd : ds.drop i = ds[i] :: ds.drop (i + 1) := by rw [List.drop_eq_getElem_cons hlt]
      have hget : ds[i]? = some ds[i] := List.getElem?_eq_getElem hlt
      rw [hd] at lc
      generalize ds[i] = d at lc hget hd
      obtain ⟨go, yl⟩ := wk i d hget
      refine .inr ⟨go, I (i + 1) (ds.length - (i + 1)), fun σ' H' h => ⟨_, by omega, h⟩, fun x H' y => ?_⟩
      have hY : ∃ G', Rz X.K m E G0 G' e2 σ2 H' ∧ Same G2 G' ∧ Dp X.K G' x d := by
        rcases yl x H' y with ⟨rfl, h⟩ | ⟨T, us, es, rfl, nT, rfl, rfl, h⟩
        · exact ⟨G2, R2, Same.refl _, h⟩
        · obtain ⟨R', S', D'⟩ := R2.r.newT nT h
          exact ⟨_, R2.exp R' S', S'.gg, D'⟩
      obtain ⟨G', R', s', dx⟩ := hY
      simp only [forGoX] at lc
      by_cases ok : okS S e2 = true
      · rw [if_pos ok] at lc
        cases h2 : γ d e2 with
        | none => simp only [h2] at lc; cases lc
        | some e3 =>
          simp only [h2] at lc
          refine kg m E G0 G' e2 σ2 H' x d e3 _ R'.r dx h2 fun σ3 R3 out sl el ac1 => ?_
          have R3' : Rz X.K m E G0 G' e3 σ3 H' := ⟨R3, fun p z => by
            obtain ⟨z1, z2⟩ := R'.z p z
            obtain ⟨o1, o2⟩ := out 0 (okS_no ok z1)
            rw [o1, o2]
            exact ⟨z1, z2⟩⟩
          cases h3 : fb e3 with
          | none => simp only [h3] at lc; cases lc
          | some x3 =>
            refine ⟨m, E, G0, G', e3, x3, R3', h3, ?_⟩
            match x3 with
            | .inl (.nx e4) =>
              simp only [h3] at lc
              exact fun G4 σ4 H4 s4 R4 => ⟨G4, e4, rfl, hlt, R4, s2.trans (s'.trans s4), lc⟩
            | .inl (.ct e4) =>
              simp only [h3] at lc
              exact fun G4 σ4 H4 s4 R4 => ⟨G4, e4, rfl, hlt, R4, s2.trans (s'.trans s4), lc⟩
            | .inl (.bk e4) =>
              simp only [h3, Option.some.injEq] at lc
              subst lc
              exact fun G4 σ4 H4 s4 R4 => P G4 σ4 H4 (S1.gg.trans (s2.trans (s'.trans s4))) R4
            | .inl (.rt r e4) =>
              simp only [h3, Option.some.injEq] at lc
              subst lc
              exact fun v G4 σ4 H4 s4 R4 V => P v G4 σ4 H4 (S1.gg.trans (s2.trans (s'.trans s4))) R4 V
            | .inr (x4, e4) =>
              simp only [h3, Option.some.injEq] at lc
              subst lc
              exact fun cls dd G4 σ4 H4 s4 R4 X4 => P cls dd G4 σ4 H4 (S1.gg.trans (s2.trans (s'.trans s4))) R4 X4
      · rw [if_neg ok] at lc
        cases lc
    · have hi2 : i = ds.length := by omega
      subst hi2
      rw [List.drop_length] at lc
      cases lc
      exact .inl ⟨stop, P G2 σ2 H2 (S1.gg.trans s2) R2⟩
end
end DL
namespace DL
open L2 PySem PySem.Spec PySem.W PyProof.Rows
/-- a block there: the handled exception stays pinned -/
abbrev blkH (X : Cx) (z : Shared) (H : Hp) (scope : Scope) (ce : Env) (fp : List Addr) (p : Addr × Obj) : Cx := { X.blk z H scope ce fp with pn := [p] }
section
variable {X : Cx} {z z0 : Shared} {H H0 : Hp} {scope : Scope} {ce : Env} {fp : List Addr} {p : Addr × Obj} {σ : L2.St} {pl : List (Addr × Obj)}
theorem blkH_ok (o : (X.blk z0 H0 scope ce fp).Ok) : (blkH X z0 H0 scope ce fp p).Ok := { mod := o.mod, kind := o.kind, glob := o.glob, blt := o.blt, above := o.above, inj := o.inj, has := o.has, cab := o.cab, hd := o.hd, frames := o.frames, stk := o.stk, exf := o.exf, bs := o.bs, bsz := o.bsz, noex := o.noex, exfs := o.exfs, funs := o.funs, frf := o.frf }
theorem blkH_in (I : Inv (X.blk z0 H0 scope ce fp) [] σ H z) (h : z.heap.get? p.1 = some p.2 ∧ H p.1 = none ∧ p.1 ≠ ce.locals ∧ p.1 ∉ frs X.stack ∧ ∀ v, p.2.data ≠ .cell v) : Inv (blkH X z0 H0 scope ce fp p) [] σ H z :=
  { ok := blkH_ok I.ok, os := I.os, bare := I.bare, base := I.base, loc := I.loc, cell := I.cell, free := I.free, freeC := I.freeC, hok := I.hok, len := I.len, pin := fun q hq => by
      have e : q = p := by simpa using hq
      rw [e]
      exact h }
theorem blkH_hot (h : L2H.Hot1 X.A p) : L2H.HotC (blkH X z0 H0 scope ce fp p) := ⟨p, h, List.mem_singleton.mpr rfl⟩
/-- the iterator's objects, seen from the block -/
theorem blkH_fp (I : Inv (blkH X z0 H0 scope ce fp p) [] σ H z) (hn : ∀ b ∈ fp, H b = none) (hp : ∀ b ∈ fp, p.1 ≠ b) : ∀ b ∈ fp, FpOk (blkH X z0 H0 scope ce fp p) [] H b := fun b hb => by
  obtain ⟨e1, e2⟩ := I.ok.exf b hb
  refine ⟨hn b hb, e1, I.ok.exfs b hb, .inl hb, fun y c q => e2 y c q, fun q hq => ?_⟩
  have e : q = p := by simpa using hq
  rw [e]
  exact hp b hb
/-- what stays true from turn to turn -/
def turnH (X : Cx) (z0 : Shared) (H0 : Hp) (scope : Scope) (ce : Env) (fp : List Addr) (p : Addr × Obj) (τ : L2.St) (tn : Nat → Heap → Prop) (W : Nat → Nat → Hp → Prop) (n : Nat) (y : Shared) : Prop :=
  ∃ i H', Inv (blkH X z0 H0 scope ce fp p) [] τ H' y ∧ tn i y.heap ∧ (∀ b ∈ fp, H' b = none) ∧ W i n H'
theorem turnH_next {tg : Expr} {J : It} {it : Addr} {tn : Nat → Heap → Prop} {W : Nat → Nat → Hp → Prop} {N : Hp → Prop} {own : List Nat} {τ : L2.St} {σ8 : L2.St} {i n : Nat} {y7 y : Shared} {H' : Hp} (T : L2H.TurnH X.prog X.w X.K tg J fp it tn) (hN : ∀ H', N H' → ∃ m, m < n ∧ W (i + 1) m H')
    (st : tn (i + 1) y7.heap) (hw : wipe σ8 own = wipe τ own) (I : Inv (blkH X z0 H0 scope ce fp p) ([] ++ pinsAt fp y7.heap) σ8 H' y) (q : N H') : ∃ m, m < n ∧ turnH X z0 H0 scope ce fp p (wipe τ own) tn W m y := by
  obtain ⟨m, lt, w⟩ := hN H' q
  have stays : ∀ b ∈ fp, ∀ o, y7.heap.get? b = some o → y.heap.get? b = some o ∧ H' b = none := fun b hb o e => by
    obtain ⟨a1, a2, _⟩ := I.pin (b, o) (List.mem_append_right _ (List.mem_append_right _ (mem_pinsAt hb e)))
    exact ⟨a1, a2⟩
  refine ⟨m, lt, i + 1, H', (I.unpinned (pins := [])).weak ?_ fun j v e => ?_, T.keep _ _ _ st fun b hb o e => (stays b hb o e).1, fun b hb => ?_, w⟩
  · rw [← hw, wipe_length]
  · rw [← hw] at e
    exact (wipe_some e).1
  · obtain ⟨o, e, _⟩ := T.obj _ _ st b hb
    exact (stays b hb o e).2
end
section
variable {X : Cx}
theorem pe_lcH {elt tg iter : Expr} {ifs : List Expr} {tt : TT} {scope : Scope} {own : List (Str × Nat)} {pos : Pos} {wi : TI} {g : TG} {te : TE} (hot : L2H.HotC X) (hN : X.N.Nodup) (hi : L2H.PIH X tg iter wi) (ok : BlkOk X.N X.env.scope scope own)
    (hg : ∀ (z : Shared) (H : Hp) (C : Addr) (cl : List (Str × Addr)) (fp : List Addr) (p : Addr × Obj), PG (blkH X z H scope (compEnvC scope cl C X.env) fp p) tg g)
    (ht : ∀ (z : Shared) (H : Hp) (C : Addr) (cl : List (Str × Addr)) (fp : List Addr) (p : Addr × Obj), L2H.Hot1 X.A p → PTs (blkH X z H scope (compEnvC scope cl C X.env) fp p) ifs tt)
    (he : ∀ (z : Shared) (H : Hp) (C : Addr) (cl : List (Str × Addr)) (fp : List Addr) (p : Addr × Obj), L2H.Hot1 X.A p → PE (blkH X z H scope (compEnvC scope cl C X.env) fp p) elt te) (hs : ∀ x, foldedSetIterable iter X.env x = pure x := by intro _; rfl) :
    PE X (.ListComp elt [⟨tg, iter, ifs, 0⟩] scope pos) (tLc wi g tt te (own.map (·.2))) := by
  obtain ⟨p, hp1, hp2⟩ := hot
  refine ⟨fun pins s σ H Q I h => ?_⟩
  rw [eval_ListComp]
  have cls : ∀ y ∈ scope.names, y.2 = .free → ∃ c, X.env.cells.lookup y.1 = some c := fun y hy e => (ok.free y hy e).elim (fun k => I.ok.has _ (.inl k)) fun k => I.ok.has _ (.inr k)
  refine wpAny_comprehension_free rfl hs (closure_ok cls) ok.kind (fun y hy e => (ok.uniq y hy).trans (congrArg some e)) (thn (hi.run pins s σ H _ I h) fun v s1 h1 => thn h1 fun itv s2 h2 => ?_)
  obtain ⟨it, fp, tn, J, H2, rfl, I2, T, st2, f2, q⟩ := h2
  refine wpAny_newObj_type (newEnv_comp ?_) (Nat.zero_le _)
  -- the new list D
  have dn : H2 s2.heap.objs.size = none := I2.hok.fresh (Nat.le_refl _)
  obtain ⟨W, ⟨m0, w0⟩, turn⟩ := q _ dn
  have I3 : Inv X pins σ (upd H2 s2.heap.objs.size (.lst [])) { s2 with heap := s2.heap.push { cls := .type "list", data := .seq ([] : List Value).toArray } } :=
    I2.laid (t' := s2.toks) (fun b o e => Heap.get?_push_of_some _ e) (Nat.le_refl _) ⟨Nat.zero_le _, [], 0, .nil, Heap.get?_push_size _ rfl⟩
  have low : ∀ b ∈ fp, b < s2.heap.objs.size := fun b hb => by
    obtain ⟨o, e, _⟩ := T.obj _ _ st2 b hb
    exact Heap.lt_size e
  have pf : ∀ b ∈ fp, p.1 ≠ b := fun b hb => (f2 b hb).2.2.2.2.2 p (List.mem_append_left _ hp2)
  have pin := I3.pin p (List.mem_append_left _ hp2)
  generalize hD : s2.heap.objs.size = D at *
  have st3 : tn 0 (s2.heap.push { cls := .type "list", data := .seq ([] : List Value).toArray }) := T.keep _ _ _ st2 fun b _ o e => Heap.get?_push_of_some _ e
  have sz3 : (s2.heap.push { cls := .type "list", data := .seq ([] : List Value).toArray }).objs.size = D + 1 := by rw [Heap.size_push, hD]
  generalize hs3 : ({ s2 with heap := s2.heap.push { cls := .type "list", data := .seq ([] : List Value).toArray } } : Shared) = s3 at *
  have hs3' : s3.heap = s2.heap.push { cls := .type "list", data := .seq ([] : List Value).toArray } := by rw [← hs3]
  rw [← hs3'] at st3 sz3
  have f3 : ∀ b ∈ fp, FpOk X pins (upd H2 D (.lst [])) b ∧ b < s3.heap.objs.size := fun b hb => by
    have lt := low b hb
    exact ⟨⟨by rw [upd_ne (Nat.ne_of_lt lt)]; exact (f2 b hb).1, (f2 b hb).2⟩, by rw [sz3]; exact Nat.lt_succ_of_lt lt⟩
  generalize hH3 : upd H2 D (.lst []) = H3 at *
  have I4 := block_start I3 ok hN f3
  have pg := hg s3 H3 s3.heap.objs.size (cellsFrom (s3.heap.objs.size + 1) scope.names (cloFrom X.env.cells scope.names [])) fp p
  have pt := ht s3 H3 s3.heap.objs.size (cellsFrom (s3.heap.objs.size + 1) scope.names (cloFrom X.env.cells scope.names [])) fp p hp1
  have pe := he s3 H3 s3.heap.objs.size (cellsFrom (s3.heap.objs.size + 1) scope.names (cloFrom X.env.cells scope.names [])) fp p hp1
  show codeAny _ _ (.compStart (.ListComp elt [⟨tg, iter, ifs, 0⟩] scope pos) 0 (.ref it) (.ref D) (compEnvC scope (cellsFrom (s3.heap.objs.size + 1) scope.names (cloFrom X.env.cells scope.names [])) s3.heap.objs.size X.env)) (compPost (model X.prog X.w) X.A X.xe none _ (.ref D) s3.heap.objs.size) { s3 with heap := pushCells (s3.heap.push { cls := .type "dict", data := .dict #[] }) scope.names }
  have nfp : ∀ b ∈ fp, H3 b = none := fun b hb => (f3 b hb).1.1
  have fr : p.1 ∉ frs X.stack := fun hm => (List.mem_cons.mp (I3.stkSub p.1 hm)).elim (fun e => pin.2.2.1 e) fun e => pin.2.2.2.1 e
  have pl : p.1 ≠ s3.heap.objs.size := Nat.ne_of_lt (Heap.lt_size pin.1)
  have kp : ∀ b o, s3.heap.get? b = some o → (pushCells (s3.heap.push { cls := .type "dict", data := .dict #[] }) scope.names).get? b = some o := fun b o e => pushCells_keeps _ _ _ _ (Heap.get?_push_of_some _ e)
  have I5 : Inv (blkH X s3 H3 scope (compEnvC scope (cellsFrom (s3.heap.objs.size + 1) scope.names (cloFrom X.env.cells scope.names [])) s3.heap.objs.size X.env) fp p) [] (wipe σ (own.map (·.2))) H3 { s3 with heap := pushCells (s3.heap.push { cls := .type "dict", data := .dict #[] }) scope.names } := blkH_in I4 ⟨kp _ _ pin.1, pin.2.1, pl, fr, pin.2.2.2.2⟩
  have st5 : tn 0 ({ s3 with heap := pushCells (s3.heap.push { cls := .type "dict", data := .dict #[] }) scope.names } : Shared).heap := T.keep _ _ _ st3 fun b _ o e => kp b o e
  have cL : (compEnvC scope (cellsFrom (s3.heap.objs.size + 1) scope.names (cloFrom X.env.cells scope.names [])) s3.heap.objs.size X.env).locals = s3.heap.objs.size := rfl
  generalize compEnvC scope (cellsFrom (s3.heap.objs.size + 1) scope.names (cloFrom X.env.cells scope.names [])) s3.heap.objs.size X.env = ce at *
  generalize ({ s3 with heap := pushCells (s3.heap.push { cls := .type "dict", data := .dict #[] }) scope.names } : Shared) = s5 at *
  have run : codeAny (model X.prog X.w) X.A (.compLoop (.ListComp elt [⟨tg, iter, ifs, 0⟩] scope pos) 0 (.ref it) (.ref D) ce) (compPost (model X.prog X.w) X.A X.xe none (EP X pins σ Q) (.ref D) s3.heap.objs.size) s5 := by
    refine compLoop_any (turnH X s3 H3 scope ce fp p (wipe σ (own.map (·.2))) tn W) (fun n y ⟨i, H6, I6, st6, n6, w6⟩ => ?_) m0 ⟨0, H3, I5, st5, nfp, w0⟩
    have fo := blkH_fp I6 n6 pf
    rcases turn i n H6 w6 with ⟨stop, qq⟩ | ⟨go, N, hN, step⟩
    · refine thnF (T.done (blkH X s3 H3 scope ce fp p) rfl rfl rfl (blkH_hot hp1) i [] y _ H6 (fun _ _ => False) I6 fo st6 stop) fun r y2 ⟨hr, I7⟩ => ?_
      subst hr
      have back : Inv X pins σ H6 y2 := I3.call' (ch := fp) I7.os I7.base I7.hok I7.bare fun b hb => ⟨(f3 b hb).1.2.2.2.1, (f3 b hb).1.2.1, (f3 b hb).1.2.2.2.2.1, (f3 b hb).1.2.2.2.2.2⟩
      have nC : H6 s3.heap.objs.size = none := cL ▸ I7.free
      obtain ⟨m, hn, _⟩ := I7.loc
      have hn : y2.heap.Ns s3.heap.objs.size m := cL ▸ hn
      obtain ⟨g0, g1, g2, g3, g4, g5⟩ := I3.fpOk (H' := H6) (Nat.le_refl s3.heap.objs.size) nC
      exact ⟨m, hn, fun h' sb => ⟨.ref D, H6, back.turned (t' := y2.toks) (fun b o hb e => (sb.2 b hb).trans e) g0 g1 g3 g4 g5, rfl, qq⟩⟩
    · refine thnF (T.item (blkH X s3 H3 scope ce fp p) rfl rfl rfl (blkH_hot hp1) i [] y _ H6 (fun _ _ => False) I6 fo st6 go) fun r y2 ⟨u, hr, h6⟩ => ?_
      subst hr
      refine thnF h6 fun _ y3 ⟨x, H7, I7, r7, q7, st7, n7⟩ => ?_
      refine thnF (pg.run _ y3 _ H7 x u _ (I7.pinned (blkH_fp I7 n7 pf) (T.obj _ _ st7)) r7 (step x H7 q7)) fun _ y4 ⟨σ8, H8, I8, hw, q8⟩ => ?_
      refine thnF (pt.run _ y4 σ8 H8 _ I8 q8) fun b y5 ⟨H9, I9, q9⟩ => ?_
      cases b with
      | false =>
        simp only [Bool.false_eq_true, if_false] at q9 ⊢
        exact turnH_next T hN st7 hw I9 q9
      | true =>
        simp only [if_true] at q9 ⊢
        refine thnF (pe.run _ y5 σ8 H9 _ I9 q9) fun w y6 ⟨yv, H10, I10, r10, acc, d10, z10, nx⟩ => ?_
        exact app_ok (X := blkH X s3 H3 scope ce fp p) I10 d10 z10 r10 fun y7 I11 => turnH_next T hN st7 hw I11 nx
  exact codeAny_compStart_list run (T.self X.A 0 _ _ _ st5 run)
theorem ed_lcH {elt tg e : Expr} {ifs : List Expr} {f fe : Fe} {tst : Ft} {S : List Nat} {γ : PyData → Ev → Option Ev} {scope : Scope} {own : List (Str × Nat)} {p q pos : Pos} (hot : L2H.HotC X) (hN : X.N.Nodup) (ha : ED X e f) (hm : X.mg "range" = none) (ok : blkC X.N X.env.scope scope own = true) (hS : ∀ i ∈ S, i ∈ own.map (·.2))
    (hg : ∀ (z : Shared) (H : Hp) (C : Addr) (cl : List (Str × Addr)) (fp : List Addr) (r : Addr × Obj), GD (blkH X z H scope (compEnvC scope cl C X.env) fp r) tg S γ)
    (ht : ∀ (z : Shared) (H : Hp) (C : Addr) (cl : List (Str × Addr)) (fp : List Addr) (r : Addr × Obj), L2H.HotC (blkH X z H scope (compEnvC scope cl C X.env) fp r) → PTD (blkH X z H scope (compEnvC scope cl C X.env) fp r) ifs tst)
    (he : ∀ (z : Shared) (H : Hp) (C : Addr) (cl : List (Str × Addr)) (fp : List Addr) (r : Addr × Obj), L2H.HotC (blkH X z H scope (compEnvC scope cl C X.env) fp r) → ED (blkH X z H scope (compEnvC scope cl C X.env) fp r) elt fe)
    (hgl : Gl X "range" := by rfl) (hs1 : starEach [e] X.env = [(false, eval e X.env)] := by rfl) (hs : ∀ x, foldedSetIterable (.Call (.Name "range" p) [e] [] q) X.env x = pure x := by intro _; rfl) :
    ED X (.ListComp elt [⟨tg, .Call (.Name "range" p) [e] [] q, ifs, 0⟩] scope pos) (x_lc (i_rng1 f) γ tst fe (own.map (·.2))) := by
  obtain ⟨t, pa, k⟩ := ha
  exact ⟨_, pe_lcH hot hN (L2H.pi_range1H hgl hm (pa_cons pa pa_nil hs1) hs1) (blkOk_by ok) (fun z H C cl fp r => (hg z H C cl fp r).can) (fun z H C cl fp r h => (ht z H C cl fp r (blkH_hot h)).ex) (fun z H C cl fp r h => (he z H C cl fp r (blkH_hot h)).can) hs, x_lc_ok hS (rng1_read k)⟩
end
section
variable {prog : Program} {w : World} {A : Around} {E : Value → Shared → Prop} {z : Shared}
theorem listEndH {it l x1 : Addr} {i : Nat} {items : Array Value} {Q : Option Value → Shared → Prop} (hot : HotX.HotAt A x1 z.heap) (ne : x1 ≠ it) (hit : z.heap.IsListIter it l i) (hl : z.heap.IsList l items) (hx : items[i]? = none)
    (hQ : ∀ h', Heap.ExtBut it z.heap h' → HotX.HotAt A x1 h' → Q none { z with heap := h' }) : wpAny (model prog w) A (pyNext (.ref it)) Q E z := by
  obtain ⟨ob, i1, i2, i3⟩ := id hit
  obtain ⟨ol, l1, _, n, l2⟩ := hl
  obtain ⟨hh, o1, vs1, x2, d1, c1⟩ := hot
  unfold pyNext
  refine wpAny_bind (wpAny_attempt (wpAny_callSpecial?_slot (name := Str.ofString "__next__") hit.typeIs slot_listiter_next (wpAny_call_entry slot_listiter_next hit.typeIs entry_listiter_next ?_ (args_listiter_next _))))
  show wpAny _ _ (field (.ref it) 0 >>= _) _ _ z
  refine wpAny_bind (wpAny_field i1 i3 (x := .ref l) rfl ?_)
  show wpAny _ _ (if (Value.ref l == Value.none) = true then _ else _) _ _ z
  have no : ¬ ((Value.ref l == Value.none) = true) := fun q => Bool.false_ne_true q
  rw [if_neg no]
  show wpAny _ _ (field (.ref it) 1 >>= _) _ _ z
  refine wpAny_bind (wpAny_field i1 i3 (x := .int i 0) rfl ?_)
  show wpAny _ _ (seqItems? (.ref l) >>= _) _ _ z
  refine wpAny_bind (wpAny_seqItems l1 l2 ?_)
  simp only [Int.toNat_natCast, hx]
  refine wpAny_bind (wpAny_rule (wpAny_bind (wpAny_setField i1 i3 (by simp) ?_)))
  show wpAny _ _ (newExc (.type "StopIteration") [] >>= _) _ _ _
  simp only [newExc, newTuple]
  refine wpAny_bind (wpAny_bind (wpAny_newObj_type (wpAny_bind (m := firstArgMember _ _) (wpAny_of_eq (a := Value.none) (by first | rfl | (simp only [firstArgMember]; rfl)) (wpAny_newObj_type ?_ (by size_fits)))) (by size_fits)))
  have x3 : ∀ {h0 : Heap} {o2 o3 : Obj}, h0.get? x1 = some o1 → ((h0.push o2).push o3).get? x1 = some o1 := fun e => Heap.get?_push_of_some _ (Heap.get?_push_of_some _ e)
  have xi : (z.heap.update it (Obj.mapFields (·.setIfInBounds 0 .none))).get? x1 = some o1 := (Heap.get?_update_ne _ _ _ _ ne).trans x2
  refine HotX.raiseNew_hot ⟨hh, o1, vs1, x3 xi, d1, c1⟩ (Nat.ne_of_lt (Heap.lt_size (Heap.get?_push_of_some _ xi))) (Heap.get?_push_size _ rfl) rfl (by first | (simp; done) | (simp; omega) | (simp only [Array.size_append]; simp; omega)) ?_
  refine wpAny_bind (wpAny_isInstance (T := "StopIteration") (b := true) ⟨_, Heap.get?_update_self _ (Heap.get?_push_size _ rfl) rfl, rfl⟩ isSubtype_stop ?_)
  have keep : ∀ {h0 : Heap} {b : Addr} {o o2 o3 : Obj} {f : Obj → Obj}, h0.get? b = some o → (((h0.push o2).push o3).update (h0.push o2).objs.size f).get? b = some o := fun e => by
    rw [Heap.get?_update_ne _ _ _ _ (Nat.ne_of_lt (Heap.lt_size (Heap.get?_push_of_some _ e)))]
    exact Heap.get?_push_of_some _ (Heap.get?_push_of_some _ e)
  refine wpAny_pure (hQ _ (fun b o nb e => ?_) ⟨hh, o1, vs1, ?_, d1, c1⟩)
  · exact keep ((Heap.get?_update_ne _ _ _ _ nb).trans e)
  · exact keep xi
/-- a list walked there -/
theorem walkH {I ax x1 : Addr} (hh : A.handled = some (.ref x1)) (n1 : ax ≠ I) (n2 : x1 ≠ I) (items : Array Value) :
    Walks prog w A I [I, ax, x1] [I] items.size (fun i v => items[i]? = some v) (fun i h => (h.IsListIter I ax i ∧ h.IsList ax items) ∧ HotX.HotAt A x1 h) where
  sub := fun b hb => by
    rw [List.mem_singleton.mp hb]
    exact List.mem_cons_self ..
  frame := fun _ _ _ st hk => ⟨⟨st.1.1.at fun o e => hk I (by simp) o e, st.1.2.at fun o e => hk ax (by simp) o e⟩, by
    obtain ⟨a, o, vs, b, c, d⟩ := st.2
    exact ⟨a, o, vs, hk x1 (by simp) o b, c, d⟩⟩
  item := fun i s Q E hi st hQ => by
    refine wpAny_pyNext_list_item st.1.1 st.1.2 (x := items[i]) (by simp [hi]) fun h' hit sb => hQ _ h' s.toks (by simp [hi]) ⟨⟨hit, st.1.2.extBut sb.extBut n1⟩, ?_⟩ fun b o hb e => sb.extBut b o (fun q => hb (by simp [q])) e
    obtain ⟨a, o, vs, b, c, d⟩ := st.2
    exact ⟨a, o, vs, sb.extBut _ _ n2 b, c, d⟩
  done := fun s Q E st hQ => listEndH st.2 n2 st.1.1 st.1.2 (by simp) fun h' ext _ => hQ h' s.toks fun b o hb e => ext b o (fun q => hb (by simp [q])) e
  self := fun _ _ _ _ st hQ => wpAny_pyIter_listiter st.1.1 hQ
end
section
variable {X : Cx}
theorem cr_allH (hot : L2H.HotC X) : CallR X (.builtin "all") (rAll X.K) := by
  intro pins s σ H vs us Q I r h
  obtain ⟨l, bs, rfl, hs, q⟩ := h
  obtain ⟨its, rv, hl, _⟩ := I.list hs
  obtain ⟨x1, h1⟩ := hot.at I
  obtain ⟨o1, vs1, g1, d1, c1⟩ := h1.2
  rw [Vals.ref1 r]
  have hb := rv.bls
  refine call_all_walk (iter_any hl.isList fun s2 e2 st ne => ?_)
  subst e2
  refine ⟨_, _, _, _, _, _, _, rfl, walkH (A := X.A.in1) h1.1 ne (Nat.ne_of_lt (Heap.lt_size g1)) its.toArray, ⟨st, h1.1, o1, vs1, Heap.get?_push_of_some _ g1, d1, c1⟩, truth_bools hb, fun h' tk hk => ⟨.bl _, H, I.kept fun b o eo => hk b o (fun hm => ?_) (Heap.get?_push_of_some _ eo), ?_, q⟩⟩
  · exact absurd (List.mem_singleton.mp hm ▸ Heap.lt_size eo) (Nat.lt_irrefl _)
  · show Value.bool _ = Value.bool _
    rw [← L2.all_range, hb, List.size_toArray, List.length_map]
end
end DL
namespace DL
open PySem PySem.Spec PySem.W PyProof.Rows L2
section
variable {X : Cx} {x n : Str} {c : Value} {i : Nat} {body suite : List Stmt} {b0 : Stmt} {np pos pos' : Pos} {hds : List ExceptHandler} {tb : WX → TS} {ts : Addr → Value → Option Addr → TS}
/-- where the exception went, the name has gone -/
theorem name_gone {σ : L2.St} {H : Hp} {a : Addr} {oe : Obj} {pins : List (Addr × Obj)} {s : Shared} {Q : Shared → Prop} (ok : X.Ok) (hN : X.N.Nodup) (hi : X.N[i]? = some n) (hln : X.env.kindOf n = some .local) (I : Inv (X.suite a ((a, oe) :: (X.pn ++ pins))) [] σ H s)
    (q : ∀ s', Inv X pins (σ.set i none) H s' → Q s') : wpAny (model X.prog X.w) X.A (do bindName X.env n .none; unbindBehindTheSuite X.env n pos') (fun _ s' => Q s') X.xe s := gone_ok (I.unsuite ok) hN hi hln q
theorem first_ends {D : Ends} {f : Flow} {a : Addr} {oe : Obj} {pins : List (Addr × Obj)} {s : Shared} (ok : X.Ok) (hN : X.N.Nodup) (hi : X.N[i]? = some n) (hln : X.env.kindOf n = some .local)
    (h : SP (X.suite a ((a, oe) :: (X.pn ++ pins))) [] { nx := fun σ' H' => D.nx (σ'.set i none) H', rt := D.rt, bk := fun σ' H' => D.bk (σ'.set i none) H', ct := fun σ' H' => D.ct (σ'.set i none) H' } f s) :
    wpAny (model X.prog X.w) X.A (do bindName X.env n .none; unbindBehindTheSuite X.env n pos') (fun _ s' => SP X pins D f s') X.xe s := by
  cases f with
  | next =>
    obtain ⟨σ', H', I, q⟩ := h
    exact name_gone ok hN hi hln I fun s' J => ⟨_, _, J, q⟩
  | brk =>
    obtain ⟨σ', H', I, q⟩ := h
    exact name_gone ok hN hi hln I fun s' J => ⟨_, _, J, q⟩
  | cont =>
    obtain ⟨σ', H', I, q⟩ := h
    exact name_gone ok hN hi hln I fun s' J => ⟨_, _, J, q⟩
  | ret u =>
    obtain ⟨v, σ', H', I, r, q⟩ := h
    exact name_gone ok hN hi hln I fun s' J => ⟨_, _, _, J, r, q⟩
theorem out_try {D : Ends} {f : Flow} {pins : List (Addr × Obj)} {xe : Value → Shared → Prop} {s : Shared} (ok : X.Ok) (h : SP (X.tr (X.pn ++ pins) xe) [] D f s) : SP X pins D f s := by
  cases f with
  | next =>
    obtain ⟨σ', H', I, q⟩ := h
    exact ⟨σ', H', I.ofTry ok, q⟩
  | brk =>
    obtain ⟨σ', H', I, q⟩ := h
    exact ⟨σ', H', I.ofTry ok, q⟩
  | cont =>
    obtain ⟨σ', H', I, q⟩ := h
    exact ⟨σ', H', I.ofTry ok, q⟩
  | ret u =>
    obtain ⟨v, σ', H', I, r, q⟩ := h
    exact ⟨v, σ', H', I.ofTry ok, r, q⟩
theorem ps_first (hs : X.stack = X.env :: X.outer) (hf : X.env.frame = some X.env.locals) (hN : X.N.Nodup) (hi : X.N[i]? = some n) (hln : X.env.kindOf n = some .local) (hc : Names X x c)
    (hb : ∀ (W : WX) (pn : List (Addr × Obj)) (xe : Value → Shared → Prop), L2N.Takes (X.tr pn xe) W → PassesOwn (model X.prog X.w) X.A X.env xe → PSs (X.tr pn xe) body (tb W))
    (hsu : ∀ (a : Addr) (oe : Obj) (cls : Value) (d : Option Addr) (pn : List (Addr × Obj)), L2N.Zn cls d oe → (∃ vs, oe.data = .fields vs) → PSs (X.suite a ((a, oe) :: pn)) (b0 :: suite) (ts a cls d)) :
    PS X (.Try body (.ExceptHandler (some (.Name x np)) (some n) (b0 :: suite) pos' :: hds) [] [] pos) (fun D σ H => tb (wAs X.K c i ts (fun _ _ _ _ => False) D) D σ H) := by
  refine ⟨fun pins s σ H D I h => wpAny_Try_except ?_⟩
  have ok := I.ok
  have top : X.A.frames = some (X.env :: X.outer) := hs ▸ ok.frames
  have trun := (hb (wAs X.K c i ts (fun _ _ _ _ => False) D) (X.pn ++ pins) (fun e s1 => wpAny (model X.prog X.w) X.A (noteFrame e X.env) (fun _ s2 => wpAny (model X.prog X.w) X.A (setFlight e none) (fun _ s3 =>
    wpAny (model X.prog X.w) X.A (handleBy e X.env (.ExceptHandler (some (.Name x np)) (some n) (b0 :: suite) pos' :: hds)) (SP X pins D) X.xe s3) X.xe s2) X.xe s1) ?_ PassesOwn.looking).run [] s σ H D (I.toTry _) h
  · refine wpAny_mono trun (fun f s1 q => ?_) fun _ _ q => q
    have q := out_try ok q
    cases f with
    | next => exact wpAny_execs_nil q
    | brk => exact q
    | cont => exact q
    | ret u => exact q
  · rintro u s2 ⟨a, B, sI, pins', σ2, H2, cls, d, rfl, J0, nb, up, sky, na, os, ag, b, m, yes, no⟩
    have J : Inv X pins σ2 H2 sI := J0.ofTry ok
    have b1 : b = true := by
      cases b with
      | true => rfl
      | false => exact (no rfl).elim
    subst b1
    show wpAny (model X.prog X.w) X.A (noteFrame (.ref a) X.env) _ _ _
    refine L2N.Sky.land L2N.Zn.steady top hf (hs ▸ sky) fun h3 fl up3 => ?_
    obtain ⟨o3, v3, e3, z3, d3⟩ := fl.there
    have J3 : Inv X pins σ2 H2 { s2 with heap := h3 } := J.landed nb fl.1 (up.trans up3) os ag
    -- the exception is no frame
    have far : a ∉ frs (X.env :: X.outer) := fun hm => by
      obtain ⟨_, o', g, w⟩ := fl.2.2.1.mem hm
      rw [e3] at g
      cases g
      exact w _ d3
    have n1 : a ≠ X.env.locals := fun q => far (List.mem_filterMap.mpr ⟨X.env, List.mem_cons_self .., by rw [hf, q]⟩)
    have n2 : a ∉ X.fs := fun q => by
      obtain ⟨e, g, w⟩ := List.mem_filterMap.mp q
      exact far (List.mem_filterMap.mpr ⟨e, List.mem_cons_of_mem _ g, w⟩)
    have S3 := J3.suite e3 d3 na n1 n2
    have asked : ∀ {Q : Value → Shared → Prop} {E : Value → Shared → Prop}, Q c { s2 with heap := h3 } → wpAny (model X.prog X.w) (X.A.mark (some (.ref a))) (eval (.Name x np) X.env) Q E { s2 with heap := h3 } := fun {Q E} q => by
      obtain ⟨g, db, w | ⟨w, v, k⟩⟩ := hc
      · exact ld_glob (X := X.suite a ((a, o3) :: (X.pn ++ pins))) S3 g w q db
      · exact ld_blt (X := X.suite a ((a, o3) :: (X.pn ++ pins))) S3 g w v q k db
    have isA : PySem.W.Looks (model X.prog X.w) h3 (typeOf (.ref a)) cls := fun A Q E z k q => wpAny_typeOf_ref (k _ _ e3) (by rw [z3.1]; exact q)
    refine wpAny_handleBy_cons (codeAny_handlers_test (asked ((PySem.W.exm_one (M := model X.prog X.w) J3.kIn isA m).here ?_))) (by intro q; cases q)
    refine codeAny_handlers_suite_as (HandSPX.lands_againZ fl fun h4 fl4 up4 => ?_)
    obtain ⟨o4, v4, e4, z4, d4⟩ := fl4.there
    have J4 : Inv X pins σ2 H2 { s2 with heap := h4 } := J.landed nb fl4.1 ((up.trans up3).trans up4) os ag
    refine store_ok (X := X.suite a ((a, o4) :: (X.pn ++ pins))) (v := .ref a) (J4.suite e4 d4 na n1 n2) hN hi (.inl hln) rfl (fun s5 S5 => ?_) (.inr hln)
    exact wpAny_mono ((hsu a o4 cls d (X.pn ++ pins) z4 ⟨_, d4⟩).run [] s5 _ H2 _ S5 (yes rfl a na)) (fun f s6 q => first_ends ok hN hi hln q) fun _ _ q => q.elim
end
theorem sd_noW {X : Cx} {st : Stmt} {f : Fsx} (h : SDX X noW st f) : SD X st (noX f) := by
  refine ⟨_, h.run, fun m E G0 G e σ H fl D R q P => ?_⟩
  unfold noX at q
  split at q
  · rename_i fl' h1
    cases q
    exact ⟨m, E, G0, G, e, _, R, h1, P⟩
  · cases q
section
variable {X : Cx} {x n : Str} {i : Nat} {body suite : List Stmt} {b0 : Stmt} {np pos pos' : Pos} {hds : List ExceptHandler} {fb : Fsx} {sub : Str → Option Bool} {g : Su}
theorem sd_tryTF (hs : X.stack = X.env :: X.outer) (hf : X.env.frame = some X.env.locals) (hN : X.N.Nodup) (T : ∃ D, X.mg x = some (.ref D) ∧ SubT X.K X.mg (.ref D) sub)
    (hb : ∀ (W' : WX) (pn : List (Addr × Obj)) (xe : Value → Shared → Prop), L2N.Takes (X.tr pn xe) W' → PassesOwn (model X.prog X.w) X.A X.env xe → SsDX (X.tr pn xe) W' body fb)
    (hsu : ∀ (k : Str) (C a dd : Addr) (oe : Obj) (pn : List (Addr × Obj)), X.mg k = some (.ref C) → L2N.Zn (.ref C) (some dd) oe → (∃ vs, oe.data = .fields vs) → SsD (X.suite a ((a, oe) :: pn)) (b0 :: suite) (g k a dd))
    (hi : X.N[i]? = some n := by rfl) (hln : X.env.kindOf n = some .local := by rfl) (hg : Gl X x := by rfl) (hdb : (x == ("__debug__" : Str)) = false := by decide) :
    SD X (.Try body (.ExceptHandler (some (.Name x np)) (some n) (b0 :: suite) pos' :: hds) [] [] pos) (noX (x_try fb sub i g)) := by
  obtain ⟨D, h1, h2⟩ := T
  exact sd_noW (try_read h2 (ps_first (tb := fun W' => tsX X.K X.mg fb W') (ts := tsC X.K X.mg g) hs hf hN hi hln ⟨hg, hdb, .inl h1⟩ (fun W' pn xe t1 t2 => (hb W' pn xe t1 t2).run) fun a oe cls d pn hz hv => suite_read hz hv hsu))
end
end DL
namespace DL
open PySem PySem.Spec PySem.W PyProof.Rows L2
section
variable {α : Type} {f : α → PyData} {l : List α} {x : Fe} {e e1 : Ev}
theorem map_any : (l.map f).map idD = l.map f := by
  rw [List.map_map]
  rfl
theorem acAny (h : x e = some (.ac (l.map f), e1)) : x e = some (.ac ((l.map f).map idD), e1) := by rw [map_any]; exact h
end
end DL
namespace K02
open PySem PySem.Spec PyProof.Rows L2 DL
def xcs : List Str := ["InvalidPaper", "NotUsable"]
def xys : List Str := ["InvalidPaper", "BookError", "PaperError", "NotUsable"]
def xfs : List Str := ["at", "word"]
def xtab : XTab := [(("InvalidPaper", "InvalidPaper"), true), (("InvalidPaper", "BookError"), false), (("InvalidPaper", "PaperError"), true), (("InvalidPaper", "NotUsable"), false), (("NotUsable", "InvalidPaper"), false), (("NotUsable", "BookError"), true), (("NotUsable", "PaperError"), false), (("NotUsable", "NotUsable"), true)]
def xok : Str → Bool := fun k => xcs.contains k
noncomputable section
def g_is_integer : Fs :=
  (s_ret (x_and (x_isi .int (x_var 0)) (x_not (x_isi .bool (x_var 0)))))
def F_is_integer : List PyData → Option Rs := runF 1 0 g_is_integer
def g_many_of : Fs :=
  (s_ret (x_cb c_len (a_cons (x_var 0) a_nil)))
def F_many_of : List PyData → Option Rs := runF 1 0 g_many_of
def g__upward : Fs :=
  (s_seq (s_set 2 (x_lst a_nil))
  (s_seq (s_while (fuI 1) (t_of (x_bin q_gt (x_var 1) (x_c (.int 0))))
  (s_seq (s_setF 1 (x_ix (x_var 0) (x_bin p_sub (x_var 1) (x_c (.int 1)))))
  (s_seq (s_drop (x_app 2 (x_var 1)))
  s_nx)))
  (s_seq (s_ret (x_var 2))
  s_nx)))
def F__upward : List PyData → Option Rs := runF 2 1 g__upward
def g_depth_in : Fs :=
  (s_seq (s_set 1 (x_lst (a_cons (x_c (.int 0)) a_nil)))
  (s_seq (s_for (i_seq (x_var 0)) (g_name 2) [2]
  (s_drop (x_app 1 (x_bin p_add (x_ix (x_var 1) (x_var 2)) (x_c (.int 1))))))
  (s_seq (s_ret (x_cb c_maxB (a_cons (x_var 1) a_nil)))
  s_nx)))
def F_depth_in : List PyData → Option Rs := runF 1 2 g_depth_in
def g_leaves_of : Fs :=
  (s_ret (x_cb c_tuple (a_cons (x_lc (i_rng1 (x_bin p_add (x_cb c_len (a_cons (x_var 0) a_nil)) (x_c (.int 1)))) (g_name 1) (t_of (x_bin p_notin (x_var 1) (x_var 0))) (x_var 1) [1]) a_nil)))
def F_leaves_of : List PyData → Option Rs := runF 1 1 g_leaves_of
def g_is_line : Fs :=
  (s_ret (x_bin p_eq (x_var 0) (x_trg (g_rg1 (x_cb c_len (a_cons (x_var 0) a_nil))))))
def F_is_line : List PyData → Option Rs := runF 1 0 g_is_line
def g__law_mixed : Fs :=
  (s_seq (s_setF 1 (x_bin p_mod (x_cb c_int (a_cons (x_bin p_mul (x_var 0) (x_bin p_add (x_bin p_mod (x_cb c_int (a_cons (x_bin p_div (x_var 0) (x_c (.int 7))) a_nil)) (x_c (.int 65497))) (x_c (.int 17)))) a_nil)) (x_c (.int 2147483629))))
  (s_seq (s_ret (x_bin p_mod (x_cb c_int (a_cons (x_bin p_div (x_bin p_mod (x_cb c_int (a_cons (x_bin p_mul (x_var 1) (x_bin p_add (x_bin p_mod (x_cb c_int (a_cons (x_bin p_div (x_var 1) (x_c (.int 5))) a_nil)) (x_c (.int 32717))) (x_c (.int 5)))) a_nil)) (x_c (.int 2147483587))) (x_c (.int 23))) a_nil)) (x_c (.int 9949))))
  s_nx))
def F__law_mixed : List PyData → Option Rs := runF 1 1 g__law_mixed
def g__law_tree : Fs :=
  (s_seq (s_set 3 (x_lst a_nil))
  (s_seq (s_for (i_rng2 (x_c (.int 1)) (x_bin p_add (x_var 1) (x_c (.int 1)))) (g_name 4) [4]
  (s_if (t_of (x_bin p_eq (x_var 2) (x_c (.int 1))))
  (s_drop (x_app 3 (x_bin p_sub (x_var 4) (x_c (.int 1)))))
  (s_if (t_of (x_bin p_eq (x_var 2) (x_c (.int 2))))
  (s_drop (x_app 3 (x_cb c_min2 (a_cons (x_bin p_sub (x_var 4) (x_c (.int 1))) (a_cons (x_bin p_mod (x_cb c_int (a_cons (x_ix (x_var 0) (x_c (.int 0))) a_nil)) (x_c (.int 3))) a_nil)))))
  (s_if (t_of (x_bin p_eq (x_var 2) (x_c (.int 3))))
  (s_drop (x_app 3 (x_cb c_max2 (a_cons (x_c (.int 0)) (a_cons (x_bin p_sub (x_bin p_sub (x_var 4) (x_c (.int 1))) (x_bin p_mod (x_cb c_int (a_cons (x_ix (x_var 0) (x_bin p_sub (x_var 4) (x_c (.int 1)))) a_nil)) (x_c (.int 3)))) a_nil)))))
  (s_if (t_of (x_bin p_eq (x_var 2) (x_c (.int 4))))
  (s_drop (x_app 3 (x_bin p_div (x_var 4) (x_c (.int 2)))))
  (s_drop (x_app 3 (x_bin p_mod (x_cb c_int (a_cons (x_ix (x_var 0) (x_bin p_sub (x_var 4) (x_c (.int 1)))) a_nil)) (x_var 4)))))))))
  (s_seq (s_ret (x_cb c_tuple (a_cons (x_var 3) a_nil)))
  s_nx)))
def F__law_tree : List PyData → Option Rs := runF 3 2 g__law_tree
def g__law_ups : Fs :=
  (s_seq (s_set 1 (x_lst (a_cons (x_lst a_nil) a_nil)))
  (s_seq (s_for (i_seq (x_var 0)) (g_name 2) [2]
  (s_drop (x_app 1 (x_bin p_add (x_lst (a_cons (x_var 2) a_nil)) (x_ix (x_var 1) (x_var 2))))))
  (s_seq (s_ret (x_var 1))
  s_nx)))
def F__law_ups : List PyData → Option Rs := runF 1 2 g__law_ups
def g__law_thing : Fs :=
  (s_seq (s_setF 2 (x_bin p_mod (x_cb c_int (a_cons (x_ix (x_var 0) (x_c (.int 0))) a_nil)) (x_c (.int 12))))
  (s_seq (s_setF 3 (x_cb c_list (a_cons (x_var 1) a_nil)))
  (s_seq (s_if (t_of (x_bin q_lt (x_var 2) (x_c (.int 2))))
  (s_setF 3 (x_lc (i_rng1 (x_bin p_add (x_c (.int 48)) (x_bin p_mod (x_cb c_int (a_cons (x_ix (x_var 0) (x_c (.int 2))) a_nil)) (x_c (.int 13))))) (g_name 4) t_yes (x_cb c_max2 (a_cons (x_c (.int 0)) (a_cons (x_bin p_sub (x_var 4) (x_bin p_mod (x_cb c_int (a_cons (x_ix (x_var 0) (x_c (.int 1))) a_nil)) (x_c (.int 2)))) a_nil))) [4]))
  s_nx)
  (s_seq (s_if (t_of (x_bin p_eq (x_var 2) (x_c (.int 1))))
  (s_ret (x_cb c_tuple (a_cons (x_var 3) a_nil)))
  s_nx)
  (s_seq (s_if (t_of (x_bin p_eq (x_var 2) (x_c (.int 2))))
  (s_ret (x_var 3))
  s_nx)
  (s_seq (s_if (t_of (x_bin p_eq (x_var 2) (x_c (.int 3))))
  (s_ret (x_ix (x_tup (a_cons (x_c .none) (a_cons (x_c (.int 0)) (a_cons (x_c (.str "")) (a_cons (x_c (.str "0")) (a_cons (x_c (.bool true)) (a_cons (x_lst (a_cons (x_var 1) a_nil)) (a_cons (x_c (.int 5)) (a_cons (x_c (.int 7)) a_nil))))))))) (x_bin p_mod (x_cb c_int (a_cons (x_ix (x_var 0) (x_c (.int 1))) a_nil)) (x_c (.int 8)))))
  s_nx)
  (s_seq (s_if (t_of (x_bin p_eq (x_var 2) (x_c (.int 4))))
  (s_ret (x_var 1))
  s_nx)
  (s_seq (s_for (i_rng1 (x_bin p_add (x_c (.int 1)) (x_bin p_mod (x_cb c_int (a_cons (x_ix (x_var 0) (x_c (.int 3))) a_nil)) (x_c (.int 2))))) (g_name 4) [4]
  (s_seq (s_setF 5 (x_bin p_mod (x_cb c_int (a_cons (x_ix (x_var 0) (x_bin p_add (x_c (.int 4)) (x_var 4))) a_nil)) (x_bin p_add (x_cb c_len (a_cons (x_var 3) a_nil)) (x_c (.int 1)))))
  (s_seq (s_setF 6 (x_ix (x_tup (a_cons (x_bin p_add (x_var 5) (x_c (.int 1))) (a_cons (x_var 5) (a_cons (x_neg (x_c (.int 1))) (a_cons (x_c (.bool true)) (a_cons (x_c (.bool false)) (a_cons (x_c .none) (a_cons (x_c (.str "0")) (a_cons (x_tup (a_cons (x_c (.int 0)) a_nil)) (a_cons (x_bin p_pow (x_c (.int 10)) (x_c (.int 20))) (a_cons (x_lst (a_cons (x_c (.int 0)) a_nil)) (a_cons (x_bin p_add (x_var 5) (x_c (.int 2))) (a_cons (x_c (.int 0)) (a_cons (x_cb c_len (a_cons (x_var 3) a_nil)) (a_cons (x_neg (x_var 5)) a_nil))))))))))))))) (x_bin p_mod (x_cb c_int (a_cons (x_ix (x_var 0) (x_bin p_add (x_c (.int 6)) (x_var 4))) a_nil)) (x_c (.int 14)))))
  (s_seq (s_setF 3 (x_bin p_add (x_bin p_add (x_sl (x_var 3) o_no (o_at (x_var 5))) (x_lst (a_cons (x_var 6) a_nil))) (x_sl (x_var 3) (o_at (x_bin p_add (x_var 5) (x_c (.int 1)))) o_no)))
  s_nx))))
  (s_seq (s_ret (x_cb c_tuple (a_cons (x_var 3) a_nil)))
  s_nx)))))))))
def F__law_thing : List PyData → Option Rs := runF 2 5 g__law_thing
def g__law_fault : Fs :=
  (s_seq (s_if (t_not (t_of (x_isi .tuple (x_var 0))))
  (s_ret (x_tup (a_cons (x_c (.str "shape")) (a_cons (x_neg (x_c (.int 1))) a_nil))))
  s_nx)
  (s_seq (s_for (i_rng1 (x_cb c_len (a_cons (x_var 0) a_nil))) (g_name 1) [1]
  (s_if (t_or (t_not (t_of (x_isi .int (x_ix (x_var 0) (x_var 1))))) (t_or (t_of (x_isi .bool (x_ix (x_var 0) (x_var 1)))) (t_or (t_of (x_bin q_lt (x_ix (x_var 0) (x_var 1)) (x_c (.int 0)))) (t_of (x_bin q_gt (x_ix (x_var 0) (x_var 1)) (x_var 1))))))
  (s_ret (x_tup (a_cons (x_c (.str "parent")) (a_cons (x_var 1) a_nil))))
  s_nx))
  (s_seq (s_ret (x_c .none))
  s_nx)))
def F__law_fault : List PyData → Option Rs := runF 1 1 g__law_fault
def g_is_number : Fs :=
  (s_ret (x_and (x_call F_is_integer [] (a_cons (x_var 0) a_nil)) (x_bin q_ge (x_var 0) (x_c (.int 0)))))
def F_is_number : List PyData → Option Rs := runF 1 0 g_is_number
def g__law_draws : Fs :=
  (s_seq (s_set 2 (x_lst a_nil))
  (s_seq (s_setF 3 (x_c (.int 0)))
  (s_seq (s_for (i_seq (x_var 0)) (g_name 4) [4]
  (s_seq (s_setF 6 (x_cb c_int (a_cons (x_var 4) a_nil)))
  (s_seq (s_setF 3 (x_bin p_mod (x_cb c_int (a_cons (x_bin p_add (x_bin p_add (x_bin p_mul (x_var 3) (x_c (.int 39373))) (x_bin p_mod (x_cb c_int (a_cons (x_var 6) a_nil)) (x_c (.int 2147483629)))) (x_c (.int 60013))) a_nil)) (x_c (.int 2147483647))))
  (s_seq (s_if (t_and (t_of (x_bin q_lt (x_var 6) (x_bin p_pow (x_c (.int 10)) (x_c (.int 18))))) (t_of (x_bin q_lt (x_cb c_len (a_cons (x_var 2) a_nil)) (x_var 1))))
  (s_drop (x_app 2 (x_call F__law_mixed [] (a_cons (x_var 3) a_nil))))
  s_nx)
  (s_seq (s_if (t_of (x_bin q_ge (x_var 6) (x_bin p_pow (x_c (.int 10)) (x_c (.int 18)))))
  (s_for (i_rng1 (x_c (.int 60))) (g_name 5) [5]
  (s_if (t_and (t_of (x_bin q_gt (x_var 6) (x_c (.int 0)))) (t_of (x_bin q_lt (x_cb c_len (a_cons (x_var 2) a_nil)) (x_var 1))))
  (s_seq (s_drop (x_app 2 (x_bin p_mod (x_cb c_int (a_cons (x_var 6) a_nil)) (x_c (.int 9949)))))
  (s_seq (s_setF 6 (x_bin p_div (x_var 6) (x_c (.int 9949))))
  s_nx))
  s_nx))
  s_nx)
  s_nx)))))
  (s_seq (s_for (i_rng1 (x_var 1)) (g_name 5) [5]
  (s_if (t_of (x_bin q_lt (x_cb c_len (a_cons (x_var 2) a_nil)) (x_var 1)))
  (s_seq (s_setF 3 (x_bin p_mod (x_cb c_int (a_cons (x_bin p_mul (x_var 3) (x_c (.int 39373))) a_nil)) (x_c (.int 2147483647))))
  (s_seq (s_drop (x_app 2 (x_call F__law_mixed [] (a_cons (x_var 3) a_nil))))
  s_nx))
  s_nx))
  (s_seq (s_ret (x_var 2))
  s_nx)))))
def F__law_draws : List PyData → Option Rs := runF 2 5 g__law_draws
def g_is_history : Fs :=
  (s_seq (s_if (t_not (t_of (x_isi .tuple (x_var 0))))
  (s_ret (x_c (.bool false)))
  s_nx)
  (s_seq (s_for (i_enum (x_var 0)) (g_tup [1, 2]) [1, 2]
  (s_if (t_or (t_not (t_of (x_call F_is_number [] (a_cons (x_var 2) a_nil)))) (t_of (x_bin q_gt (x_var 2) (x_var 1))))
  (s_ret (x_c (.bool false)))
  s_nx))
  (s_seq (s_ret (x_c (.bool true)))
  s_nx)))
def F_is_history : List PyData → Option Rs := runF 1 2 g_is_history
def gx_check_version : Fsx :=
  (x_ifS (t_or (t_not (t_of (x_call F_is_number [] (a_cons (x_var 2) a_nil)))) (t_not (t_of (x_chain q_le q_le (x_var 3) (x_var 2) (x_cb c_len (a_cons (x_var 0) a_nil))))))
  (x_raise "NotUsable" ["word", "at"] (a_cons (x_var 1) (a_cons (x_neg (x_c (.int 1))) a_nil)))
  (xS s_nx))
def FY_check_version : List PyData → Option Ro := runX 4 0 gx_check_version
def g_check_version : Fs :=
  (s_if (t_or (t_not (t_of (x_call F_is_number [] (a_cons (x_var 2) a_nil)))) (t_not (t_of (x_chain q_le q_le (x_var 3) (x_var 2) (x_cb c_len (a_cons (x_var 0) a_nil))))))
  s_no
  s_nx)
def F_check_version : List PyData → Option Rs := runF 4 0 g_check_version
def FX_check_version : List PyData → Option Ro := orRx F_check_version FY_check_version
def gx_lets_history : Fsx :=
  (x_seq (x_ifS (t_not (t_of (x_isi .tuple (x_var 0))))
  (x_raise "InvalidPaper" ["word", "at"] (a_cons (x_c (.str "shape")) (a_cons (x_neg (x_c (.int 1))) a_nil)))
  (xS s_nx))
  (x_seq (x_for (i_enum (x_var 0)) (g_tup [1, 2]) [1, 2]
  (x_ifS (t_or (t_not (t_of (x_call F_is_number [] (a_cons (x_var 2) a_nil)))) (t_of (x_bin q_gt (x_var 2) (x_var 1))))
  (x_raise "InvalidPaper" ["word", "at"] (a_cons (x_c (.str "parent")) (a_cons (x_var 1) a_nil)))
  (xS s_nx)))
  (x_seq (xS (s_ret (x_cb c_len (a_cons (x_var 0) a_nil))))
  (xS s_nx))))
def FY_lets_history : List PyData → Option Ro := runX 1 2 gx_lets_history
def g_lets_history : Fs :=
  (s_seq (s_if (t_not (t_of (x_isi .tuple (x_var 0))))
  s_no
  s_nx)
  (s_seq (s_for (i_enum (x_var 0)) (g_tup [1, 2]) [1, 2]
  (s_if (t_or (t_not (t_of (x_call F_is_number [] (a_cons (x_var 2) a_nil)))) (t_of (x_bin q_gt (x_var 2) (x_var 1))))
  s_no
  s_nx))
  (s_seq (s_ret (x_cb c_len (a_cons (x_var 0) a_nil)))
  s_nx)))
def F_lets_history : List PyData → Option Rs := runF 1 2 g_lets_history
def FX_lets_history : List PyData → Option Ro := orRx F_lets_history FY_lets_history
def gx_parent_of : Fsx :=
  (x_seq (x_drop (x_callX FX_check_version [] (a_cons (x_var 0) (a_cons (x_c (.str "version")) (a_cons (x_var 1) (a_cons (x_c (.int 1)) a_nil))))))
  (x_seq (xS (s_ret (x_ix (x_var 0) (x_bin p_sub (x_var 1) (x_c (.int 1))))))
  (xS s_nx)))
def FY_parent_of : List PyData → Option Ro := runX 2 0 gx_parent_of
def g_parent_of : Fs :=
  (s_seq (s_drop (x_call F_check_version [] (a_cons (x_var 0) (a_cons (x_c (.str "version")) (a_cons (x_var 1) (a_cons (x_c (.int 1)) a_nil))))))
  (s_seq (s_ret (x_ix (x_var 0) (x_bin p_sub (x_var 1) (x_c (.int 1)))))
  s_nx))
def F_parent_of : List PyData → Option Rs := runF 2 0 g_parent_of
def FX_parent_of : List PyData → Option Ro := orRx F_parent_of FY_parent_of
def gx_elders_of : Fsx :=
  (x_seq (x_drop (x_callX FX_check_version [.int 0] (a_cons (x_var 0) (a_cons (x_c (.str "version")) (a_cons (x_var 1) a_nil)))))
  (x_seq (xS (s_ret (x_cb c_tuple (a_cons (x_call F__upward [] (a_cons (x_var 0) (a_cons (x_var 1) a_nil))) a_nil))))
  (xS s_nx)))
def FY_elders_of : List PyData → Option Ro := runX 2 0 gx_elders_of
def g_elders_of : Fs :=
  (s_seq (s_drop (x_call F_check_version [.int 0] (a_cons (x_var 0) (a_cons (x_c (.str "version")) (a_cons (x_var 1) a_nil)))))
  (s_seq (s_ret (x_cb c_tuple (a_cons (x_call F__upward [] (a_cons (x_var 0) (a_cons (x_var 1) a_nil))) a_nil)))
  s_nx))
def F_elders_of : List PyData → Option Rs := runF 2 0 g_elders_of
def FX_elders_of : List PyData → Option Ro := orRx F_elders_of FY_elders_of
def gx_path_of : Fsx :=
  (x_seq (x_drop (x_callX FX_check_version [.int 0] (a_cons (x_var 0) (a_cons (x_c (.str "version")) (a_cons (x_var 1) a_nil)))))
  (x_seq (xS (s_setF 2 (x_bin p_add (x_lst (a_cons (x_var 1) a_nil)) (x_call F__upward [] (a_cons (x_var 0) (a_cons (x_var 1) a_nil))))))
  (x_seq (xS (s_ret (x_cb c_tuple (a_cons (x_lc (i_rev (x_var 2)) (g_name 3) (t_of (x_bin q_gt (x_var 3) (x_c (.int 0)))) (x_var 3) [3]) a_nil))))
  (xS s_nx))))
def FY_path_of : List PyData → Option Ro := runX 2 2 gx_path_of
def g_path_of : Fs :=
  (s_seq (s_drop (x_call F_check_version [.int 0] (a_cons (x_var 0) (a_cons (x_c (.str "version")) (a_cons (x_var 1) a_nil)))))
  (s_seq (s_setF 2 (x_bin p_add (x_lst (a_cons (x_var 1) a_nil)) (x_call F__upward [] (a_cons (x_var 0) (a_cons (x_var 1) a_nil)))))
  (s_seq (s_ret (x_cb c_tuple (a_cons (x_lc (i_rev (x_var 2)) (g_name 3) (t_of (x_bin q_gt (x_var 3) (x_c (.int 0)))) (x_var 3) [3]) a_nil)))
  s_nx)))
def F_path_of : List PyData → Option Rs := runF 2 2 g_path_of
def FX_path_of : List PyData → Option Ro := orRx F_path_of FY_path_of
def gx_is_elder : Fsx :=
  (x_seq (x_drop (x_callX FX_check_version [.int 0] (a_cons (x_var 0) (a_cons (x_c (.str "one")) (a_cons (x_var 1) a_nil)))))
  (x_seq (x_drop (x_callX FX_check_version [.int 0] (a_cons (x_var 0) (a_cons (x_c (.str "other")) (a_cons (x_var 2) a_nil)))))
  (x_seq (xS (s_ret (x_bin p_in (x_var 1) (x_call F__upward [] (a_cons (x_var 0) (a_cons (x_var 2) a_nil))))))
  (xS s_nx))))
def FY_is_elder : List PyData → Option Ro := runX 3 0 gx_is_elder
def g_is_elder : Fs :=
  (s_seq (s_drop (x_call F_check_version [.int 0] (a_cons (x_var 0) (a_cons (x_c (.str "one")) (a_cons (x_var 1) a_nil)))))
  (s_seq (s_drop (x_call F_check_version [.int 0] (a_cons (x_var 0) (a_cons (x_c (.str "other")) (a_cons (x_var 2) a_nil)))))
  (s_seq (s_ret (x_bin p_in (x_var 1) (x_call F__upward [] (a_cons (x_var 0) (a_cons (x_var 2) a_nil)))))
  s_nx)))
def F_is_elder : List PyData → Option Rs := runF 3 0 g_is_elder
def FX_is_elder : List PyData → Option Ro := orRx F_is_elder FY_is_elder
def gx_meet_of : Fsx :=
  (x_seq (x_drop (x_callX FX_check_version [.int 0] (a_cons (x_var 0) (a_cons (x_c (.str "one")) (a_cons (x_var 1) a_nil)))))
  (x_seq (x_drop (x_callX FX_check_version [.int 0] (a_cons (x_var 0) (a_cons (x_c (.str "other")) (a_cons (x_var 2) a_nil)))))
  (x_seq (xS (s_while (fun _ => 3000) (t_of (x_bin p_ne (x_var 1) (x_var 2)))
  (s_if (t_of (x_bin q_gt (x_var 1) (x_var 2)))
  (s_setF 1 (x_ix (x_var 0) (x_bin p_sub (x_var 1) (x_c (.int 1)))))
  (s_setF 2 (x_ix (x_var 0) (x_bin p_sub (x_var 2) (x_c (.int 1))))))))
  (x_seq (xS (s_ret (x_var 1)))
  (xS s_nx)))))
def FY_meet_of : List PyData → Option Ro := runX 3 0 gx_meet_of
def g_meet_of : Fs :=
  (s_seq (s_drop (x_call F_check_version [.int 0] (a_cons (x_var 0) (a_cons (x_c (.str "one")) (a_cons (x_var 1) a_nil)))))
  (s_seq (s_drop (x_call F_check_version [.int 0] (a_cons (x_var 0) (a_cons (x_c (.str "other")) (a_cons (x_var 2) a_nil)))))
  (s_seq (s_while (fun _ => 3000) (t_of (x_bin p_ne (x_var 1) (x_var 2)))
  (s_if (t_of (x_bin q_gt (x_var 1) (x_var 2)))
  (s_setF 1 (x_ix (x_var 0) (x_bin p_sub (x_var 1) (x_c (.int 1)))))
  (s_setF 2 (x_ix (x_var 0) (x_bin p_sub (x_var 2) (x_c (.int 1)))))))
  (s_seq (s_ret (x_var 1))
  s_nx))))
def F_meet_of : List PyData → Option Rs := runF 3 0 g_meet_of
def FX_meet_of : List PyData → Option Ro := orRx F_meet_of FY_meet_of
def gx_depth_of : Fsx :=
  (x_seq (x_drop (x_callX FX_check_version [.int 0] (a_cons (x_var 0) (a_cons (x_c (.str "version")) (a_cons (x_var 1) a_nil)))))
  (x_seq (xS (s_ret (x_cb c_len (a_cons (x_call F__upward [] (a_cons (x_var 0) (a_cons (x_var 1) a_nil))) a_nil))))
  (xS s_nx)))
def FY_depth_of : List PyData → Option Ro := runX 2 0 gx_depth_of
def g_depth_of : Fs :=
  (s_seq (s_drop (x_call F_check_version [.int 0] (a_cons (x_var 0) (a_cons (x_c (.str "version")) (a_cons (x_var 1) a_nil)))))
  (s_seq (s_ret (x_cb c_len (a_cons (x_call F__upward [] (a_cons (x_var 0) (a_cons (x_var 1) a_nil))) a_nil)))
  s_nx))
def F_depth_of : List PyData → Option Rs := runF 2 0 g_depth_of
def FX_depth_of : List PyData → Option Ro := orRx F_depth_of FY_depth_of
def gx_children_of : Fsx :=
  (x_seq (x_drop (x_callX FX_check_version [.int 0] (a_cons (x_var 0) (a_cons (x_c (.str "version")) (a_cons (x_var 1) a_nil)))))
  (x_seq (xS (s_ret (x_cb c_tuple (a_cons (x_lc (i_enum (x_var 0)) (g_tup [2, 3]) (t_of (x_bin p_eq (x_var 3) (x_var 1))) (x_bin p_add (x_var 2) (x_c (.int 1))) [2, 3]) a_nil))))
  (xS s_nx)))
def FY_children_of : List PyData → Option Ro := runX 2 2 gx_children_of
def g_children_of : Fs :=
  (s_seq (s_drop (x_call F_check_version [.int 0] (a_cons (x_var 0) (a_cons (x_c (.str "version")) (a_cons (x_var 1) a_nil)))))
  (s_seq (s_ret (x_cb c_tuple (a_cons (x_lc (i_enum (x_var 0)) (g_tup [2, 3]) (t_of (x_bin p_eq (x_var 3) (x_var 1))) (x_bin p_add (x_var 2) (x_c (.int 1))) [2, 3]) a_nil)))
  s_nx))
def F_children_of : List PyData → Option Rs := runF 2 2 g_children_of
def FX_children_of : List PyData → Option Ro := orRx F_children_of FY_children_of
def gx_branch_of : Fsx :=
  (x_seq (x_drop (x_callX FX_check_version [.int 0] (a_cons (x_var 0) (a_cons (x_c (.str "version")) (a_cons (x_var 1) a_nil)))))
  (x_seq (xS (s_set 2 (x_rep (a_cons (x_c (.bool false)) a_nil) (x_bin p_add (x_cb c_len (a_cons (x_var 0) a_nil)) (x_c (.int 1))))))
  (x_seq (xS (s_put 2 (x_c (.bool true)) (x_var 1)))
  (x_seq (xS (s_for (i_enum (x_var 0)) (g_tup [3, 4]) [3, 4]
  (s_if (t_of (x_ix (x_var 2) (x_var 4)))
  (s_put 2 (x_c (.bool true)) (x_bin p_add (x_var 3) (x_c (.int 1))))
  s_nx)))
  (x_seq (xS (s_fz 2 (s_ret (x_cb c_tuple (a_cons (x_lc (i_enum (x_var 2)) (g_tup [5, 6]) (t_of (x_var 6)) (x_var 5) [5, 6]) a_nil)))))
  (xS s_nx))))))
def FY_branch_of : List PyData → Option Ro := runX 2 5 gx_branch_of
def g_branch_of : Fs :=
  (s_seq (s_drop (x_call F_check_version [.int 0] (a_cons (x_var 0) (a_cons (x_c (.str "version")) (a_cons (x_var 1) a_nil)))))
  (s_seq (s_set 2 (x_rep (a_cons (x_c (.bool false)) a_nil) (x_bin p_add (x_cb c_len (a_cons (x_var 0) a_nil)) (x_c (.int 1)))))
  (s_seq (s_put 2 (x_c (.bool true)) (x_var 1))
  (s_seq (s_for (i_enum (x_var 0)) (g_tup [3, 4]) [3, 4]
  (s_if (t_of (x_ix (x_var 2) (x_var 4)))
  (s_put 2 (x_c (.bool true)) (x_bin p_add (x_var 3) (x_c (.int 1))))
  s_nx))
  (s_seq (s_fz 2 (s_ret (x_cb c_tuple (a_cons (x_lc (i_enum (x_var 2)) (g_tup [5, 6]) (t_of (x_var 6)) (x_var 5) [5, 6]) a_nil))))
  s_nx)))))
def F_branch_of : List PyData → Option Rs := runF 2 5 g_branch_of
def FX_branch_of : List PyData → Option Ro := orRx F_branch_of FY_branch_of
def g__law_door : Fs :=
  (s_seq (noX (x_try (x_ifS (t_of (x_bin p_eq (x_var 0) (x_c (.int 0))))
  (x_drop (x_callX FX_parent_of [] (a_cons (x_var 1) (a_cons (x_var 2) a_nil))))
  (x_ifS (t_of (x_bin p_eq (x_var 0) (x_c (.int 1))))
  (x_drop (x_callX FX_elders_of [] (a_cons (x_var 1) (a_cons (x_var 2) a_nil))))
  (x_ifS (t_of (x_bin p_eq (x_var 0) (x_c (.int 2))))
  (x_drop (x_callX FX_path_of [] (a_cons (x_var 1) (a_cons (x_var 2) a_nil))))
  (x_ifS (t_of (x_bin p_eq (x_var 0) (x_c (.int 3))))
  (x_drop (x_callX FX_depth_of [] (a_cons (x_var 1) (a_cons (x_var 2) a_nil))))
  (x_ifS (t_of (x_bin p_eq (x_var 0) (x_c (.int 4))))
  (x_drop (x_callX FX_children_of [] (a_cons (x_var 1) (a_cons (x_var 2) a_nil))))
  (x_ifS (t_of (x_bin p_eq (x_var 0) (x_c (.int 5))))
  (x_drop (x_callX FX_branch_of [] (a_cons (x_var 1) (a_cons (x_var 2) a_nil))))
  (x_ifS (t_of (x_bin p_eq (x_var 0) (x_c (.int 6))))
  (x_drop (x_callX FX_is_elder [] (a_cons (x_var 1) (a_cons (x_var 2) (a_cons (x_var 3) a_nil)))))
  (x_ifS (t_of (x_bin p_eq (x_var 0) (x_c (.int 7))))
  (x_drop (x_callX FX_is_elder [] (a_cons (x_var 1) (a_cons (x_var 3) (a_cons (x_var 2) a_nil)))))
  (x_ifS (t_of (x_bin p_eq (x_var 0) (x_c (.int 8))))
  (x_drop (x_callX FX_meet_of [] (a_cons (x_var 1) (a_cons (x_var 2) (a_cons (x_var 3) a_nil)))))
  (x_ifS (t_of (x_bin p_eq (x_var 0) (x_c (.int 9))))
  (x_drop (x_callX FX_meet_of [] (a_cons (x_var 1) (a_cons (x_var 3) (a_cons (x_var 2) a_nil)))))
  (x_ifS (t_of (x_bin p_eq (x_var 0) (x_c (.int 10))))
  (x_drop (x_callX FX_is_elder [] (a_cons (x_var 1) (a_cons (x_var 2) (a_cons (x_var 2) a_nil)))))
  (x_drop (x_callX FX_meet_of [] (a_cons (x_var 1) (a_cons (x_var 2) (a_cons (x_var 2) a_nil)))))))))))))))) (tabF xtab "NotUsable") 4 (fun k a dd =>
  (s_ret (x_tup (a_cons (x_fld xok k a dd 4 "word") (a_cons (x_fld xok k a dd 4 "at") (a_cons (x_isE (tabF xtab "BookError") k a dd 4) (a_cons (x_isE (tabF xtab "PaperError") k a dd 4) a_nil)))))))))
  (s_seq (s_ret (x_tup (a_cons (x_c (.str "let")) a_nil)))
  s_nx))
def F__law_door : List PyData → Option Rs := runF 4 1 g__law_door
def R__law_same : Nat → List PyData → Option Rs
  | 0 => fun _ => none
  | N + 1 => runF 2 1 (s_seq (s_if (t_of (x_isi .tuple (x_var 1)))
  (s_seq (s_if (t_or (t_not (t_of (x_isi .tuple (x_var 0)))) (t_of (x_bin p_ne (x_cb c_len (a_cons (x_var 0) a_nil)) (x_cb c_len (a_cons (x_var 1) a_nil)))))
  (s_ret (x_c (.bool false)))
  s_nx)
  (s_seq (s_ret (x_cb c_all (a_cons (x_lc (i_rng1 (x_cb c_len (a_cons (x_var 1) a_nil))) (g_name 2) t_yes (x_call (R__law_same N) [] (a_cons (x_ix (x_var 0) (x_var 2)) (a_cons (x_ix (x_var 1) (x_var 2)) a_nil))) [2]) a_nil)))
  s_nx))
  s_nx)
  (s_seq (s_if (t_of (x_isi .str (x_var 1)))
  (s_ret (x_and (x_isi .str (x_var 0)) (x_bin p_eq (x_var 0) (x_var 1))))
  s_nx)
  (s_seq (s_if (t_or (t_of (x_bin p_is (x_var 1) (x_c .none))) (t_of (x_bin p_ne (x_isi .bool (x_var 0)) (x_isi .bool (x_var 1)))))
  (s_ret (x_and (x_bin p_is (x_var 1) (x_c .none)) (x_bin p_is (x_var 0) (x_c .none))))
  s_nx)
  (s_seq (s_ret (x_and (x_isi .int (x_var 0)) (x_bin p_eq (x_var 0) (x_var 1))))
  s_nx))))
theorem len__law_same : ∀ N ds, (R__law_same N ds).isSome = true → ds.length = 2
  | 0 => fun _ h => nomatch h
  | N + 1 => runF_len
def F__law_same : List PyData → Option Rs := R__law_same 8
def g__law_judged : Fs :=
  (s_seq (s_setF 1 (x_call F__law_fault [] (a_cons (x_var 0) a_nil)))
  (s_seq (s_if (t_or (t_not (t_of (x_call F__law_same [] (a_cons (x_call F_is_history [] (a_cons (x_var 0) a_nil)) (a_cons (x_bin p_is (x_var 1) (x_c .none)) a_nil))))) (t_not (t_of (x_call F__law_same [] (a_cons (x_callK F_is_history [0] a_nil (a_cons (x_var 0) a_nil)) (a_cons (x_bin p_is (x_var 1) (x_c .none)) a_nil))))))
  (s_ret (x_c (.bool false)))
  s_nx)
  (s_seq (noX (x_try (x_seq (x_set 3 (x_callX FX_lets_history [] (a_cons (x_var 0) a_nil)))
  (x_seq (xS (s_ret (x_and (x_bin p_is (x_var 1) (x_c .none)) (x_and (x_call F__law_same [] (a_cons (x_var 3) (a_cons (x_cb c_len (a_cons (x_var 0) a_nil)) a_nil))) (x_call F__law_same [] (a_cons (x_callK F_lets_history [0] a_nil (a_cons (x_var 0) a_nil)) (a_cons (x_cb c_len (a_cons (x_var 0) a_nil)) a_nil)))))))
  (xS s_nx))) (tabF xtab "InvalidPaper") 2 (fun k a dd =>
  (s_seq (s_if (t_of (x_bin p_is (x_var 1) (x_c .none)))
  (s_ret (x_c (.bool false)))
  s_nx)
  (s_seq (s_ret (x_call F__law_same [] (a_cons (x_tup (a_cons (x_fld xok k a dd 2 "word") (a_cons (x_fld xok k a dd 2 "at") (a_cons (x_isE (tabF xtab "PaperError") k a dd 2) (a_cons (x_isE (tabF xtab "BookError") k a dd 2) a_nil))))) (a_cons (x_bin p_add (x_var 1) (x_tup (a_cons (x_c (.bool true)) (a_cons (x_c (.bool false)) a_nil)))) a_nil))))
  s_nx)))))
  s_nx)))
def F__law_judged : List PyData → Option Rs := runF 1 3 g__law_judged
def g__law_refusals : Fs :=
  (s_seq (s_setF 3 (x_bin p_add (x_bin p_repT (x_tup (a_cons (x_c (.str "version")) a_nil)) (x_c (.int 6))) (x_tup (a_cons (x_c (.str "one")) (a_cons (x_c (.str "other")) (a_cons (x_c (.str "one")) (a_cons (x_c (.str "other")) (a_cons (x_c (.str "one")) (a_cons (x_c (.str "one")) a_nil)))))))))
  (s_seq (s_for (i_rng1 (x_c (.int 12))) (g_name 4) [4]
  (s_seq (s_if (t_not (t_of (x_call F__law_same [] (a_cons (x_call F__law_door [] (a_cons (x_var 4) (a_cons (x_var 0) (a_cons (x_var 1) (a_cons (x_var 2) a_nil))))) (a_cons (x_tup (a_cons (x_ix (x_var 3) (x_var 4)) (a_cons (x_neg (x_c (.int 1))) (a_cons (x_c (.bool true)) (a_cons (x_c (.bool false)) a_nil))))) a_nil)))))
  (s_ret (x_c (.bool false)))
  s_nx)
  (s_seq (s_if (t_and (t_of (x_bin q_gt (x_var 4) (x_c (.int 0)))) (t_not (t_of (x_call F__law_same [] (a_cons (x_call F__law_door [] (a_cons (x_var 4) (a_cons (x_var 0) (a_cons (x_var 2) (a_cons (x_var 2) a_nil))))) (a_cons (x_tup (a_cons (x_c (.str "let")) a_nil)) a_nil))))))
  (s_ret (x_c (.bool false)))
  s_nx)
  s_nx)))
  (s_seq (s_if (t_not (t_of (x_call F__law_same [] (a_cons (x_call F__law_door [] (a_cons (x_c (.int 0)) (a_cons (x_var 0) (a_cons (x_c (.int 0)) (a_cons (x_var 2) a_nil))))) (a_cons (x_tup (a_cons (x_c (.str "version")) (a_cons (x_neg (x_c (.int 1))) (a_cons (x_c (.bool true)) (a_cons (x_c (.bool false)) a_nil))))) a_nil)))))
  (s_ret (x_c (.bool false)))
  s_nx)
  (s_seq (s_ret (x_or (x_bin p_eq (x_var 2) (x_c (.int 0))) (x_call F__law_same [] (a_cons (x_call F__law_door [] (a_cons (x_c (.int 0)) (a_cons (x_var 0) (a_cons (x_var 2) (a_cons (x_var 2) a_nil))))) (a_cons (x_tup (a_cons (x_c (.str "let")) a_nil)) a_nil)))))
  s_nx))))
def F__law_refusals : List PyData → Option Rs := runF 3 2 g__law_refusals
def g__law_version : Fs :=
  (s_seq (s_setF 4 (x_cb c_tuple (a_cons (x_lc (i_rng1 (x_cb c_len (a_cons (x_var 1) a_nil))) (g_name 8) (t_or (t_of (x_bin p_eq (x_var 8) (x_var 2))) (t_of (x_bin p_in (x_var 2) (x_ix (x_var 1) (x_var 8))))) (x_var 8) [8]) a_nil)))
  (s_seq (s_setF 5 (x_cb c_tuple (a_cons (x_lc (i_rng2 (x_c (.int 1)) (x_cb c_len (a_cons (x_var 1) a_nil))) (g_name 8) (t_of (x_bin p_eq (x_ix (x_var 0) (x_bin p_sub (x_var 8) (x_c (.int 1)))) (x_var 2))) (x_var 8) [8]) a_nil)))
  (s_seq (s_setF 6 (x_cb c_tuple (a_cons (x_cb c_sortedB (a_cons (x_lc (i_seq (x_bin p_add (x_lst (a_cons (x_var 2) a_nil)) (x_ix (x_var 1) (x_var 2)))) (g_name 8) (t_of (x_bin q_gt (x_var 8) (x_c (.int 0)))) (x_var 8) [8]) a_nil)) a_nil)))
  (s_seq (s_if (t_of (x_var 3))
  (s_setF 7 (x_tup (a_cons (x_callK F_elders_of [1, 0] a_nil (a_cons (x_var 2) (a_cons (x_var 0) a_nil))) (a_cons (x_callK F_path_of [1, 0] a_nil (a_cons (x_var 2) (a_cons (x_var 0) a_nil))) (a_cons (x_callK F_depth_of [1, 0] a_nil (a_cons (x_var 2) (a_cons (x_var 0) a_nil))) (a_cons (x_callK F_children_of [1, 0] a_nil (a_cons (x_var 2) (a_cons (x_var 0) a_nil))) (a_cons (x_callK F_branch_of [1, 0] a_nil (a_cons (x_var 2) (a_cons (x_var 0) a_nil))) a_nil)))))))
  (s_setF 7 (x_tup (a_cons (x_call F_elders_of [] (a_cons (x_var 0) (a_cons (x_var 2) a_nil))) (a_cons (x_call F_path_of [] (a_cons (x_var 0) (a_cons (x_var 2) a_nil))) (a_cons (x_call F_depth_of [] (a_cons (x_var 0) (a_cons (x_var 2) a_nil))) (a_cons (x_call F_children_of [] (a_cons (x_var 0) (a_cons (x_var 2) a_nil))) (a_cons (x_call F_branch_of [] (a_cons (x_var 0) (a_cons (x_var 2) a_nil))) a_nil))))))))
  (s_seq (s_if (t_not (t_of (x_call F__law_same [] (a_cons (x_var 7) (a_cons (x_tup (a_cons (x_cb c_tuple (a_cons (x_ix (x_var 1) (x_var 2)) a_nil)) (a_cons (x_var 6) (a_cons (x_cb c_len (a_cons (x_ix (x_var 1) (x_var 2)) a_nil)) (a_cons (x_var 5) (a_cons (x_var 4) a_nil)))))) a_nil)))))
  (s_ret (x_c (.bool false)))
  s_nx)
  (s_seq (s_if (t_and (t_of (x_bin q_gt (x_var 2) (x_c (.int 0)))) (t_of (x_var 3)))
  (s_ret (x_call F__law_same [] (a_cons (x_callK F_parent_of [1, 0] a_nil (a_cons (x_var 2) (a_cons (x_var 0) a_nil))) (a_cons (x_ix (x_ix (x_var 1) (x_var 2)) (x_c (.int 0))) a_nil))))
  s_nx)
  (s_seq (s_ret (x_or (x_bin p_eq (x_var 2) (x_c (.int 0))) (x_call F__law_same [] (a_cons (x_call F_parent_of [] (a_cons (x_var 0) (a_cons (x_var 2) a_nil))) (a_cons (x_ix (x_ix (x_var 1) (x_var 2)) (x_c (.int 0))) a_nil)))))
  s_nx)))))))
def F__law_version : List PyData → Option Rs := runF 4 5 g__law_version
def g__law_pair : Fs :=
  (s_seq (s_setF 5 (x_cb c_maxB (a_cons (x_lc (i_seq (x_bin p_add (x_lst (a_cons (x_var 2) a_nil)) (x_ix (x_var 1) (x_var 2)))) (g_name 7) (t_or (t_of (x_bin p_eq (x_var 7) (x_var 3))) (t_of (x_bin p_in (x_var 7) (x_ix (x_var 1) (x_var 3))))) (x_var 7) [7]) a_nil)))
  (s_seq (s_if (t_of (x_var 4))
  (s_setF 6 (x_tup (a_cons (x_callK F_is_elder [2, 1, 0] a_nil (a_cons (x_var 3) (a_cons (x_var 2) (a_cons (x_var 0) a_nil)))) (a_cons (x_callK F_meet_of [2, 1, 0] a_nil (a_cons (x_var 3) (a_cons (x_var 2) (a_cons (x_var 0) a_nil)))) a_nil))))
  (s_setF 6 (x_tup (a_cons (x_call F_is_elder [] (a_cons (x_var 0) (a_cons (x_var 2) (a_cons (x_var 3) a_nil)))) (a_cons (x_call F_meet_of [] (a_cons (x_var 0) (a_cons (x_var 2) (a_cons (x_var 3) a_nil)))) a_nil)))))
  (s_seq (s_ret (x_call F__law_same [] (a_cons (x_var 6) (a_cons (x_tup (a_cons (x_bin p_in (x_var 2) (x_ix (x_var 1) (x_var 3))) (a_cons (x_var 5) a_nil))) a_nil))))
  s_nx)))
def F__law_pair : List PyData → Option Rs := runF 5 3 g__law_pair
def g__law_whole : Fs :=
  (s_seq (s_setF 3 (x_lc (i_seq (x_var 0)) (g_name 7) t_yes (x_var 7) [7]))
  (s_seq (s_setF 4 (x_cb c_tuple (a_cons (x_lc (i_rng1 (x_cb c_len (a_cons (x_var 1) a_nil))) (g_name 8) (t_of (x_bin p_notin (x_var 8) (x_var 3))) (x_var 8) [8]) a_nil)))
  (s_seq (s_setF 5 (x_bin p_eq (x_var 0) (x_trg (g_rg1 (x_cb c_len (a_cons (x_var 0) a_nil))))))
  (s_seq (s_if (t_of (x_var 2))
  (s_setF 6 (x_tup (a_cons (x_callK F_many_of [0] a_nil (a_cons (x_var 0) a_nil)) (a_cons (x_callK F_depth_in [0] a_nil (a_cons (x_var 0) a_nil)) (a_cons (x_callK F_leaves_of [0] a_nil (a_cons (x_var 0) a_nil)) (a_cons (x_callK F_is_line [0] a_nil (a_cons (x_var 0) a_nil)) a_nil))))))
  (s_setF 6 (x_tup (a_cons (x_call F_many_of [] (a_cons (x_var 0) a_nil)) (a_cons (x_call F_depth_in [] (a_cons (x_var 0) a_nil)) (a_cons (x_call F_leaves_of [] (a_cons (x_var 0) a_nil)) (a_cons (x_call F_is_line [] (a_cons (x_var 0) a_nil)) a_nil)))))))
  (s_seq (s_ret (x_call F__law_same [] (a_cons (x_var 6) (a_cons (x_tup (a_cons (x_cb c_len (a_cons (x_var 0) a_nil)) (a_cons (x_cb c_maxB (a_cons (x_lc (i_seq (x_var 1)) (g_name 9) t_yes (x_cb c_len (a_cons (x_var 9) a_nil)) [9]) a_nil)) (a_cons (x_var 4) (a_cons (x_var 5) a_nil))))) a_nil))))
  s_nx)))))
def F__law_whole : List PyData → Option Rs := runF 3 7 g__law_whole
def g_law : Fs :=
  (s_seq (s_setF 1 (x_call F__law_draws [] (a_cons (x_var 0) (a_cons (x_c (.int 128)) a_nil))))
  (s_seq (s_setF 2 (x_bin p_mod (x_cb c_int (a_cons (x_ix (x_var 1) (x_c (.int 0))) a_nil)) (x_c (.int 10))))
  (s_seq (s_if (t_of (x_bin q_gt (x_bin p_mod (x_cb c_int (a_cons (x_ix (x_var 1) (x_c (.int 1))) a_nil)) (x_c (.int 12))) (x_c (.int 9))))
  (s_setF 2 (x_bin p_add (x_c (.int 24)) (x_bin p_mul (x_c (.int 16)) (x_bin p_sub (x_bin p_mod (x_cb c_int (a_cons (x_ix (x_var 1) (x_c (.int 1))) a_nil)) (x_c (.int 12))) (x_c (.int 10))))))
  s_nx)
  (s_seq (s_setF 3 (x_call F__law_tree [] (a_cons (x_sl (x_var 1) (o_at (x_c (.int 2))) (o_at (x_c (.int 42)))) (a_cons (x_var 2) (a_cons (x_bin p_mod (x_cb c_int (a_cons (x_ix (x_var 1) (x_c (.int 42))) a_nil)) (x_c (.int 8))) a_nil)))))
  (s_seq (s_setF 4 (x_call F__law_ups [] (a_cons (x_var 3) a_nil)))
  (s_seq (s_if (t_or (t_not (t_of (x_call F__law_judged [] (a_cons (x_var 3) a_nil)))) (t_not (t_of (x_call F__law_judged [] (a_cons (x_call F__law_thing [] (a_cons (x_sl (x_var 1) (o_at (x_c (.int 43))) (o_at (x_c (.int 52)))) (a_cons (x_var 3) a_nil))) a_nil)))))
  (s_ret (x_c (.bool false)))
  s_nx)
  (s_seq (s_if (t_not (t_of (x_call F__law_whole [] (a_cons (x_var 3) (a_cons (x_var 4) (a_cons (x_c (.bool false)) a_nil))))))
  (s_ret (x_c (.bool false)))
  s_nx)
  (s_seq (s_setF 5 (x_lrg (g_rg1 (x_bin p_add (x_var 2) (x_c (.int 1))))))
  (s_seq (s_setF 6 (x_lc (i_rng1 (x_bin p_mul (x_bin p_add (x_var 2) (x_c (.int 1))) (x_bin p_add (x_var 2) (x_c (.int 1))))) (g_name 10) t_yes (x_tup (a_cons (x_bin p_div (x_var 10) (x_bin p_add (x_var 2) (x_c (.int 1)))) (a_cons (x_bin p_mod (x_cb c_int (a_cons (x_var 10) a_nil)) (x_bin p_add (x_var 2) (x_c (.int 1)))) a_nil))) [10]))
  (s_seq (s_if (t_of (x_bin q_gt (x_var 2) (x_c (.int 9))))
  (s_seq (s_setF 5 (x_lc (i_rng1 (x_c (.int 8))) (g_name 10) t_yes (x_bin p_mod (x_cb c_int (a_cons (x_ix (x_var 1) (x_bin p_add (x_c (.int 52)) (x_var 10))) a_nil)) (x_bin p_add (x_var 2) (x_c (.int 1)))) [10]))
  (s_seq (s_setF 6 (x_lc (i_rng1 (x_c (.int 24))) (g_name 10) t_yes (x_tup (a_cons (x_bin p_mod (x_cb c_int (a_cons (x_ix (x_var 1) (x_bin p_add (x_c (.int 60)) (x_var 10))) a_nil)) (x_bin p_add (x_var 2) (x_c (.int 1)))) (a_cons (x_bin p_mod (x_cb c_int (a_cons (x_ix (x_var 1) (x_bin p_add (x_c (.int 84)) (x_var 10))) a_nil)) (x_bin p_add (x_var 2) (x_c (.int 1)))) a_nil))) [10]))
  s_nx))
  s_nx)
  (s_seq (s_for (i_seq (x_var 5)) (g_name 7) [7]
  (s_if (t_not (t_of (x_call F__law_version [] (a_cons (x_var 3) (a_cons (x_var 4) (a_cons (x_var 7) (a_cons (x_c (.bool false)) a_nil)))))))
  (s_ret (x_c (.bool false)))
  s_nx))
  (s_seq (s_for (i_seq (x_var 6)) (g_tup [7, 8]) [7, 8]
  (s_if (t_not (t_of (x_call F__law_pair [] (a_cons (x_var 3) (a_cons (x_var 4) (a_cons (x_var 7) (a_cons (x_var 8) (a_cons (x_c (.bool false)) a_nil))))))))
  (s_ret (x_c (.bool false)))
  s_nx))
  (s_seq (s_setF 7 (x_bin p_mod (x_cb c_int (a_cons (x_ix (x_var 1) (x_c (.int 108))) a_nil)) (x_bin p_add (x_var 2) (x_c (.int 1)))))
  (s_seq (s_setF 8 (x_bin p_mod (x_cb c_int (a_cons (x_ix (x_var 1) (x_c (.int 109))) a_nil)) (x_bin p_add (x_var 2) (x_c (.int 1)))))
  (s_seq (s_if (t_or (t_not (t_of (x_call F__law_version [] (a_cons (x_var 3) (a_cons (x_var 4) (a_cons (x_var 8) (a_cons (x_c (.bool true)) a_nil))))))) (t_not (t_of (x_call F__law_pair [] (a_cons (x_var 3) (a_cons (x_var 4) (a_cons (x_var 7) (a_cons (x_var 8) (a_cons (x_c (.bool true)) a_nil)))))))))
  (s_ret (x_c (.bool false)))
  s_nx)
  (s_seq (s_setF 9 (x_ix (x_tup (a_cons (x_bin p_add (x_var 2) (x_c (.int 1))) (a_cons (x_neg (x_c (.int 1))) (a_cons (x_c (.bool true)) (a_cons (x_c (.bool false)) (a_cons (x_c .none) (a_cons (x_c (.str "0")) (a_cons (x_tup (a_cons (x_var 7) a_nil)) (a_cons (x_lst (a_cons (x_var 7) a_nil)) (a_cons (x_bin p_add (x_var 2) (x_c (.int 2))) (a_cons (x_bin p_pow (x_c (.int 10)) (x_c (.int 20))) (a_cons (x_bin p_sub (x_neg (x_var 2)) (x_c (.int 1))) (a_cons (x_tup a_nil) a_nil))))))))))))) (x_bin p_mod (x_cb c_int (a_cons (x_ix (x_var 1) (x_c (.int 110))) a_nil)) (x_c (.int 12)))))
  (s_seq (s_ret (x_and (x_call F__law_refusals [] (a_cons (x_var 3) (a_cons (x_var 9) (a_cons (x_var 7) a_nil)))) (x_call F__law_whole [] (a_cons (x_var 3) (a_cons (x_var 4) (a_cons (x_c (.bool true)) a_nil))))))
  s_nx)))))))))))))))))
def F_law : List PyData → Option Rs := runF 1 10 g_law
end
end K02
namespace K02
open PySem PySem.Spec PyProof.Rows L2 DL
def top (i : Nat) : Stmt := PySem.Challenge.pw_sincemarks_k02_whole_elders.main.body.getD i (.Pass ⟨0, 0, 0, 0⟩)
abbrev s_is_integer : Stmt := top 7
abbrev s_is_number : Stmt := top 8
abbrev s_is_history : Stmt := top 10
abbrev s_check_version : Stmt := top 12
abbrev s_many_of : Stmt := top 14
abbrev s_parent_of : Stmt := top 15
abbrev s__upward : Stmt := top 16
abbrev s_elders_of : Stmt := top 17
abbrev s_path_of : Stmt := top 18
abbrev s_is_elder : Stmt := top 19
abbrev s_meet_of : Stmt := top 20
abbrev s_depth_of : Stmt := top 21
abbrev s_depth_in : Stmt := top 22
abbrev s_lets_history : Stmt := top 24
abbrev s_children_of : Stmt := top 26
abbrev s_branch_of : Stmt := top 27
abbrev s_leaves_of : Stmt := top 28
abbrev s_is_line : Stmt := top 29
abbrev s__law_mixed : Stmt := top 31
abbrev s__law_draws : Stmt := top 32
abbrev s__law_same : Stmt := top 33
abbrev s__law_tree : Stmt := top 34
abbrev s__law_ups : Stmt := top 35
abbrev s__law_thing : Stmt := top 36
abbrev s__law_fault : Stmt := top 37
abbrev s__law_judged : Stmt := top 38
abbrev s__law_door : Stmt := top 39
abbrev s__law_refusals : Stmt := top 40
abbrev s__law_version : Stmt := top 41
abbrev s__law_pair : Stmt := top 42
abbrev s__law_whole : Stmt := top 43
abbrev s_law : Stmt := top 44
def d_is_integer : He.DefD := ⟨("is_integer", none), "is_integer", "is_integer", defArgs s_is_integer, defBody s_is_integer, defScope s_is_integer, [], []⟩
def d_is_number : He.DefD := ⟨("is_number", none), "is_number", "is_number", defArgs s_is_number, defBody s_is_number, defScope s_is_number, [], []⟩
def d_is_history : He.DefD := ⟨("is_history", none), "is_history", "is_history", defArgs s_is_history, defBody s_is_history, defScope s_is_history, [], []⟩
def d_check_version : He.DefD := ⟨("check_version", none), "check_version", "check_version", defArgs s_check_version, defBody s_check_version, defScope s_check_version, [.int 0], []⟩
def d_many_of : He.DefD := ⟨("many_of", none), "many_of", "many_of", defArgs s_many_of, defBody s_many_of, defScope s_many_of, [], []⟩
def d_parent_of : He.DefD := ⟨("parent_of", none), "parent_of", "parent_of", defArgs s_parent_of, defBody s_parent_of, defScope s_parent_of, [], []⟩
def d__upward : He.DefD := ⟨("_upward", none), "_upward", "_upward", defArgs s__upward, defBody s__upward, defScope s__upward, [], []⟩
def d_elders_of : He.DefD := ⟨("elders_of", none), "elders_of", "elders_of", defArgs s_elders_of, defBody s_elders_of, defScope s_elders_of, [], []⟩
def d_path_of : He.DefD := ⟨("path_of", none), "path_of", "path_of", defArgs s_path_of, defBody s_path_of, defScope s_path_of, [], []⟩
def d_is_elder : He.DefD := ⟨("is_elder", none), "is_elder", "is_elder", defArgs s_is_elder, defBody s_is_elder, defScope s_is_elder, [], []⟩
def d_meet_of : He.DefD := ⟨("meet_of", none), "meet_of", "meet_of", defArgs s_meet_of, defBody s_meet_of, defScope s_meet_of, [], []⟩
def d_depth_of : He.DefD := ⟨("depth_of", none), "depth_of", "depth_of", defArgs s_depth_of, defBody s_depth_of, defScope s_depth_of, [], []⟩
def d_depth_in : He.DefD := ⟨("depth_in", none), "depth_in", "depth_in", defArgs s_depth_in, defBody s_depth_in, defScope s_depth_in, [], []⟩
def d_lets_history : He.DefD := ⟨("lets_history", none), "lets_history", "lets_history", defArgs s_lets_history, defBody s_lets_history, defScope s_lets_history, [], []⟩
def d_children_of : He.DefD := ⟨("children_of", none), "children_of", "children_of", defArgs s_children_of, defBody s_children_of, defScope s_children_of, [], []⟩
def d_branch_of : He.DefD := ⟨("branch_of", none), "branch_of", "branch_of", defArgs s_branch_of, defBody s_branch_of, defScope s_branch_of, [], []⟩
def d_leaves_of : He.DefD := ⟨("leaves_of", none), "leaves_of", "leaves_of", defArgs s_leaves_of, defBody s_leaves_of, defScope s_leaves_of, [], []⟩
def d_is_line : He.DefD := ⟨("is_line", none), "is_line", "is_line", defArgs s_is_line, defBody s_is_line, defScope s_is_line, [], []⟩
def d__law_mixed : He.DefD := ⟨("_law_mixed", none), "_law_mixed", "_law_mixed", defArgs s__law_mixed, defBody s__law_mixed, defScope s__law_mixed, [], []⟩
def d__law_draws : He.DefD := ⟨("_law_draws", none), "_law_draws", "_law_draws", defArgs s__law_draws, defBody s__law_draws, defScope s__law_draws, [], []⟩
def d__law_same : He.DefD := ⟨("_law_same", none), "_law_same", "_law_same", defArgs s__law_same, defBody s__law_same, defScope s__law_same, [], []⟩
def d__law_tree : He.DefD := ⟨("_law_tree", none), "_law_tree", "_law_tree", defArgs s__law_tree, defBody s__law_tree, defScope s__law_tree, [], []⟩
def d__law_ups : He.DefD := ⟨("_law_ups", none), "_law_ups", "_law_ups", defArgs s__law_ups, defBody s__law_ups, defScope s__law_ups, [], []⟩
def d__law_thing : He.DefD := ⟨("_law_thing", none), "_law_thing", "_law_thing", defArgs s__law_thing, defBody s__law_thing, defScope s__law_thing, [], []⟩
def d__law_fault : He.DefD := ⟨("_law_fault", none), "_law_fault", "_law_fault", defArgs s__law_fault, defBody s__law_fault, defScope s__law_fault, [], []⟩
def d__law_judged : He.DefD := ⟨("_law_judged", none), "_law_judged", "_law_judged", defArgs s__law_judged, defBody s__law_judged, defScope s__law_judged, [], []⟩
def d__law_door : He.DefD := ⟨("_law_door", none), "_law_door", "_law_door", defArgs s__law_door, defBody s__law_door, defScope s__law_door, [], []⟩
def d__law_refusals : He.DefD := ⟨("_law_refusals", none), "_law_refusals", "_law_refusals", defArgs s__law_refusals, defBody s__law_refusals, defScope s__law_refusals, [], []⟩
def d__law_version : He.DefD := ⟨("_law_version", none), "_law_version", "_law_version", defArgs s__law_version, defBody s__law_version, defScope s__law_version, [], []⟩
def d__law_pair : He.DefD := ⟨("_law_pair", none), "_law_pair", "_law_pair", defArgs s__law_pair, defBody s__law_pair, defScope s__law_pair, [], []⟩
def d__law_whole : He.DefD := ⟨("_law_whole", none), "_law_whole", "_law_whole", defArgs s__law_whole, defBody s__law_whole, defScope s__law_whole, [], []⟩
def d_law : He.DefD := ⟨("law", none), "law", "law", defArgs s_law, defBody s_law, defScope s_law, [], []⟩
def ex : PySem.W.Frag → Bool := fun K => exB xcs xys xfs xtab K && blB [] K
abbrev s_i_InvalidPaper : Stmt := inCls (top 4) 0
def d_i_InvalidPaper : He.DefD := ⟨("InvalidPaper", some "__init__"), "__init__", "InvalidPaper.__init__", defArgs s_i_InvalidPaper, defBody s_i_InvalidPaper, defScope s_i_InvalidPaper, [], []⟩
abbrev s_i_NotUsable : Stmt := inCls (top 5) 0
def d_i_NotUsable : He.DefD := ⟨("NotUsable", some "__init__"), "__init__", "NotUsable.__init__", defArgs s_i_NotUsable, defBody s_i_NotUsable, defScope s_i_NotUsable, [], []⟩
def fn : List He.DefD := [d_is_integer, d_is_number, d_is_history, d_check_version, d_many_of, d_parent_of, d__upward, d_elders_of, d_path_of, d_is_elder, d_meet_of, d_depth_of, d_depth_in, d_lets_history, d_children_of, d_branch_of, d_leaves_of, d_is_line, d__law_mixed, d__law_draws, d__law_same, d__law_tree, d__law_ups, d__law_thing, d__law_fault, d__law_judged, d__law_door, d__law_refusals, d__law_version, d__law_pair, d__law_whole, d_law, d_i_InvalidPaper, d_i_NotUsable]
def fa : List He.Fa := [.glo "is_integer", .glo "is_number", .glo "is_history", .glo "check_version", .glo "many_of", .glo "parent_of", .glo "_upward", .glo "elders_of", .glo "path_of", .glo "is_elder", .glo "meet_of", .glo "depth_of", .glo "depth_in", .glo "lets_history", .glo "children_of", .glo "branch_of", .glo "leaves_of", .glo "is_line", .glo "_law_mixed", .glo "_law_draws", .glo "_law_same", .glo "_law_tree", .glo "_law_ups", .glo "_law_thing", .glo "_law_fault", .glo "_law_judged", .glo "_law_door", .glo "_law_refusals", .glo "_law_version", .glo "_law_pair", .glo "_law_whole", .glo "law", .free "ValueError", .free "all", .free "bool", .free "enumerate", .free "int", .free "isinstance", .free "len", .free "list", .free "max", .free "min", .free "range", .free "reversed", .free "sorted", .free "str", .free "tuple"]
def names0 : List Str := ["BookError", "InvalidPaper", "MarkError", "NotUsable", "PaperError", "_law_door", "_law_draws", "_law_fault", "_law_judged", "_law_mixed", "_law_pair", "_law_refusals", "_law_same", "_law_thing", "_law_tree", "_law_ups", "_law_version", "_law_whole", "_upward", "branch_of", "check_version", "children_of", "depth_in", "depth_of", "elders_of", "is_elder", "is_history", "is_integer", "is_line", "is_number"]
def names1 : List Str := ["leaves_of", "lets_history", "many_of", "meet_of", "parent_of", "path_of"]
def names : List Str := names0 ++ names1
abbrev R : PySem.W.OpenRow := PySem.W.OpenLaw.row PySem.Challenge.rw_sincemarks_k02_whole_elders
abbrev hk : PySem.W.Hook := hookX 4 fa fn ex
def ob (s : PySem.W.SharedT) : He.AlD × Bool := obsXG 4 fa fn ex (HandSHeadRun.getT s)
theorem ob_eq (s : PySem.W.SharedT) : ob s = hk.obs s.abs := obsXG_eq (HandSHeadRun.getT_eq s)
theorem run (w : World) : HandSHeadRun.RunEq R (PySem.W.view R.prog [44]) hk ob 6000 names w := by
  intro os
  kernel_rfl
end K02
namespace K02
open PySem PySem.Spec PyProof.Rows L2 DL
structure Bi (mg : Str → Option Value) : Prop where
  all : mg ("all" : Str) = none
  bool : mg ("bool" : Str) = none
  enumerate : mg ("enumerate" : Str) = none
  int : mg ("int" : Str) = none
  isinstance : mg ("isinstance" : Str) = none
  len : mg ("len" : Str) = none
  list : mg ("list" : Str) = none
  max : mg ("max" : Str) = none
  min : mg ("min" : Str) = none
  range : mg ("range" : Str) = none
  reversed : mg ("reversed" : Str) = none
  sorted : mg ("sorted" : Str) = none
  str : mg ("str" : Str) = none
  tuple : mg ("tuple" : Str) = none
theorem sc_is_integer : FnScope ["thing"] ["thing"] (defScope s_is_integer) := ⟨rfl, rfl, rfl, by decide +kernel, rfl, by decide +kernel, by decide +kernel⟩
theorem sc_many_of : FnScope ["history"] ["history"] (defScope s_many_of) := ⟨rfl, rfl, rfl, by decide +kernel, rfl, by decide +kernel, by decide +kernel⟩
theorem sc__upward : FnScope ["history", "version", "found"] ["history", "version"] (defScope s__upward) := ⟨rfl, rfl, rfl, by decide +kernel, rfl, by decide +kernel, by decide +kernel⟩
theorem sc_depth_in : FnScope ["history", "depths", "parent"] ["history"] (defScope s_depth_in) := ⟨rfl, rfl, rfl, by decide +kernel, rfl, by decide +kernel, by decide +kernel⟩
theorem sc_leaves_of : FnScope ["history", "version"] ["history"] (defScope s_leaves_of) := ⟨rfl, rfl, rfl, by decide +kernel, rfl, by decide +kernel, by decide +kernel⟩
theorem sc_is_line : FnScope ["history"] ["history"] (defScope s_is_line) := ⟨rfl, rfl, rfl, by decide +kernel, rfl, by decide +kernel, by decide +kernel⟩
theorem sc__law_mixed : FnScope ["_law_state", "_law_twice"] ["_law_state"] (defScope s__law_mixed) := ⟨rfl, rfl, rfl, by decide +kernel, rfl, by decide +kernel, by decide +kernel⟩
theorem sc__law_tree : FnScope ["_law_b", "_law_size", "_law_shape", "_law_tree_here", "_law_v"] ["_law_b", "_law_size", "_law_shape"] (defScope s__law_tree) := ⟨rfl, rfl, rfl, by decide +kernel, rfl, by decide +kernel, by decide +kernel⟩
theorem sc__law_ups : FnScope ["_law_tree_here", "_law_ups_here", "_law_p"] ["_law_tree_here"] (defScope s__law_ups) := ⟨rfl, rfl, rfl, by decide +kernel, rfl, by decide +kernel, by decide +kernel⟩
theorem sc__law_thing : FnScope ["_law_b", "_law_tree_here", "_law_menu", "_law_parts", "_law_k", "_law_p", "_law_odd"] ["_law_b", "_law_tree_here"] (defScope s__law_thing) := ⟨rfl, rfl, rfl, by decide +kernel, rfl, by decide +kernel, by decide +kernel⟩
theorem sc__law_fault : FnScope ["_law_x", "_law_k"] ["_law_x"] (defScope s__law_fault) := ⟨rfl, rfl, rfl, by decide +kernel, rfl, by decide +kernel, by decide +kernel⟩
theorem sc_is_number : FnScope ["thing"] ["thing"] (defScope s_is_number) := ⟨rfl, rfl, rfl, by decide +kernel, rfl, by decide +kernel, by decide +kernel⟩
theorem sc__law_draws : FnScope ["_law_script", "_law_size", "_law_row", "_law_state", "_law_cell", "_law_k", "_law_left"] ["_law_script", "_law_size"] (defScope s__law_draws) := ⟨rfl, rfl, rfl, by decide +kernel, rfl, by decide +kernel, by decide +kernel⟩
theorem sc_is_history : FnScope ["thing", "k", "parent"] ["thing"] (defScope s_is_history) := ⟨rfl, rfl, rfl, by decide +kernel, rfl, by decide +kernel, by decide +kernel⟩
theorem sc_check_version : FnScope ["history", "name", "thing", "least"] ["history", "name", "thing", "least"] (defScope s_check_version) := ⟨rfl, rfl, rfl, by decide +kernel, rfl, by decide +kernel, by decide +kernel⟩
theorem sc_lets_history : FnScope ["thing", "k", "parent"] ["thing"] (defScope s_lets_history) := ⟨rfl, rfl, rfl, by decide +kernel, rfl, by decide +kernel, by decide +kernel⟩
theorem sc_parent_of : FnScope ["history", "version"] ["history", "version"] (defScope s_parent_of) := ⟨rfl, rfl, rfl, by decide +kernel, rfl, by decide +kernel, by decide +kernel⟩
theorem sc_elders_of : FnScope ["history", "version"] ["history", "version"] (defScope s_elders_of) := ⟨rfl, rfl, rfl, by decide +kernel, rfl, by decide +kernel, by decide +kernel⟩
theorem sc_path_of : FnScope ["history", "version", "found", "elder"] ["history", "version"] (defScope s_path_of) := ⟨rfl, rfl, rfl, by decide +kernel, rfl, by decide +kernel, by decide +kernel⟩
theorem sc_is_elder : FnScope ["history", "one", "other"] ["history", "one", "other"] (defScope s_is_elder) := ⟨rfl, rfl, rfl, by decide +kernel, rfl, by decide +kernel, by decide +kernel⟩
theorem sc_meet_of : FnScope ["history", "one", "other"] ["history", "one", "other"] (defScope s_meet_of) := ⟨rfl, rfl, rfl, by decide +kernel, rfl, by decide +kernel, by decide +kernel⟩
theorem sc_depth_of : FnScope ["history", "version"] ["history", "version"] (defScope s_depth_of) := ⟨rfl, rfl, rfl, by decide +kernel, rfl, by decide +kernel, by decide +kernel⟩
theorem sc_children_of : FnScope ["history", "version", "k", "parent"] ["history", "version"] (defScope s_children_of) := ⟨rfl, rfl, rfl, by decide +kernel, rfl, by decide +kernel, by decide +kernel⟩
theorem sc_branch_of : FnScope ["history", "version", "inside", "k", "parent", "at", "is_in"] ["history", "version"] (defScope s_branch_of) := ⟨rfl, rfl, rfl, by decide +kernel, rfl, by decide +kernel, by decide +kernel⟩
theorem sc__law_door : FnScope ["_law_which", "_law_tree_here", "_law_x", "_law_v", "e"] ["_law_which", "_law_tree_here", "_law_x", "_law_v"] (defScope s__law_door) := ⟨rfl, rfl, rfl, by decide +kernel, rfl, by decide +kernel, by decide +kernel⟩
theorem sc__law_same : FnScope ["_law_got", "_law_due", "_law_k"] ["_law_got", "_law_due"] (defScope s__law_same) := ⟨rfl, rfl, rfl, by decide +kernel, rfl, by decide +kernel, by decide +kernel⟩
theorem sc__law_judged : FnScope ["_law_x", "_law_fault_here", "e", "_law_got"] ["_law_x"] (defScope s__law_judged) := ⟨rfl, rfl, rfl, by decide +kernel, rfl, by decide +kernel, by decide +kernel⟩
theorem sc__law_refusals : FnScope ["_law_tree_here", "_law_x", "_law_v", "_law_names", "_law_which"] ["_law_tree_here", "_law_x", "_law_v"] (defScope s__law_refusals) := ⟨rfl, rfl, rfl, by decide +kernel, rfl, by decide +kernel, by decide +kernel⟩
theorem sc__law_version : FnScope ["_law_tree_here", "_law_ups_here", "_law_v", "_law_named", "_law_branch", "_law_children", "_law_path", "_law_got", "_law_z"] ["_law_tree_here", "_law_ups_here", "_law_v", "_law_named"] (defScope s__law_version) := ⟨rfl, rfl, rfl, by decide +kernel, rfl, by decide +kernel, by decide +kernel⟩
theorem sc__law_pair : FnScope ["_law_tree_here", "_law_ups_here", "_law_v", "_law_w", "_law_named", "_law_both", "_law_got", "_law_z"] ["_law_tree_here", "_law_ups_here", "_law_v", "_law_w", "_law_named"] (defScope s__law_pair) := ⟨rfl, rfl, rfl, by decide +kernel, rfl, by decide +kernel, by decide +kernel⟩
theorem sc__law_whole : FnScope ["_law_tree_here", "_law_ups_here", "_law_named", "_law_parents", "_law_leaves", "_law_straight", "_law_got", "_law_p", "_law_z", "_law_row"] ["_law_tree_here", "_law_ups_here", "_law_named"] (defScope s__law_whole) := ⟨rfl, rfl, rfl, by decide +kernel, rfl, by decide +kernel, by decide +kernel⟩
theorem sc_law : FnScope ["_law_script", "_law_row", "_law_size", "_law_tree_here", "_law_ups_here", "_law_asks", "_law_pairs", "_law_v", "_law_w", "_law_odd", "_law_k"] ["_law_script"] (defScope s_law) := ⟨rfl, rfl, rfl, by decide +kernel, rfl, by decide +kernel, by decide +kernel⟩
theorem sc_i_InvalidPaper : FnScope ["self", "word", "at"] ["self", "word", "at"] (defScope s_i_InvalidPaper) := ⟨rfl, rfl, rfl, by decide +kernel, rfl, by decide +kernel, by decide +kernel⟩
theorem sc_i_NotUsable : FnScope ["self", "word", "at"] ["self", "word", "at"] (defScope s_i_NotUsable) := ⟨rfl, rfl, rfl, by decide +kernel, rfl, by decide +kernel, by decide +kernel⟩
section
variable {P : Program} {w : World} {K : PySem.W.Frag} {mg : Str → Option Value} {base : Heap} {f : Addr} {fd : FuncData} {dvs : List V} {kws : List (Str × V)}
theorem ok_is_integer (B : Bi mg) (F : FunD K "is_integer" "is_integer" (defArgs s_is_integer) (defBody s_is_integer) (defScope s_is_integer) dvs kws f fd) : FnOk P w K mg base CX0 1 f fd ["thing"] (spD K 1 F_is_integer) :=
  fnD F sc_is_integer rfl rfl fun cdv A outer s H E hr => (ssd_one (sd_ret (ed_and (ed_isi .int (ed_var 0) B.isinstance B.int) (ed_one (ed_not (ed_isi .bool (ed_var 0) B.isinstance B.bool))))))
theorem ok_many_of (B : Bi mg) (F : FunD K "many_of" "many_of" (defArgs s_many_of) (defBody s_many_of) (defScope s_many_of) dvs kws f fd) : FnOk P w K mg base CX0 1 f fd ["history"] (spD K 1 F_many_of) :=
  fnD F sc_many_of rfl rfl fun cdv A outer s H E hr => (ssd_one (sd_ret (ed_cb vc_len call_len_seq B.len (ad_cons (ed_var 0) ad_nil))))
theorem ok__upward (F : FunD K "_upward" "_upward" (defArgs s__upward) (defBody s__upward) (defScope s__upward) dvs kws f fd) : FnOk P w K mg base CX0 1 f fd ["history", "version"] (spD K 2 F__upward) :=
  fnD F sc__upward rfl rfl fun cdv A outer s H E hr => (ssd_cons (sd_set 2 sc__upward.nd (ed_lst ad_nil))
  (ssd_cons (sd_while (fuI 1) PassesOwn.never (td_cmp vq_gt (oq_gt hr.units) (nomark _) (ed_var 1) ed_int)
  (ssd_cons (sd_setF 1 sc__upward.nd (ed_ix (ed_var 0) (ed_op vb_sub op_sub (ed_var 1) ed_int)))
  (ssd_cons (sd_expr (ed_app 2 (ed_var 1)))
  ssd_nil)))
  (ssd_cons (sd_ret (ed_var 2))
  ssd_nil)))
theorem ok_depth_in (B : Bi mg) (F : FunD K "depth_in" "depth_in" (defArgs s_depth_in) (defBody s_depth_in) (defScope s_depth_in) dvs kws f fd) : FnOk P w K mg base CX0 1 f fd ["history"] (spD K 1 F_depth_in) :=
  fnD F sc_depth_in rfl rfl fun cdv A outer s H E hr => (ssd_cons (sd_set 1 sc_depth_in.nd (ed_lst (ad_cons ed_int ad_nil)))
  (ssd_cons (sd_for rfl PassesOwn.never (id_seq (ed_var 0)) (gd_name (i := 2) sc_depth_in.nd rfl (by first | exact .inl rfl | exact .inr rfl))
  (ssd_one (sd_expr (ed_app 1 (ed_op vb_add op_add3 (ed_ix (ed_var 1) (ed_var 2)) ed_int)))))
  (ssd_cons (sd_ret (ed_cb vc_maxB (cr_maxB rfl hr.units) B.max (ad_cons (ed_var 1) ad_nil)))
  ssd_nil)))
theorem ok_leaves_of (B : Bi mg) (F : FunD K "leaves_of" "leaves_of" (defArgs s_leaves_of) (defBody s_leaves_of) (defScope s_leaves_of) dvs kws f fd) : FnOk P w K mg base CX0 1 f fd ["history"] (spD K 1 F_leaves_of) :=
  fnD F sc_leaves_of rfl rfl fun cdv A outer s H E hr => (ssd_one (sd_ret (ed_ct vc_tuple call_tuple_of B.tuple (ad_cons (ed_lc (own := [("version", 1)]) rfl sc_leaves_of.nd (id_rng1 (ed_op vb_add op_add3 (ed_cb vc_len call_len_seq B.len (ad_cons (ed_var 0) ad_nil)) ed_int) B.range) (by first | decide | with_unfolding_all rfl) (by decide) (fun _ _ _ _ _ => (gd_name (i := 1) sc_leaves_of.nd rfl (by first | exact .inl rfl | exact .inr rfl))) (fun _ _ _ _ _ => (ptd_one (td_cmp vb_inB op_notIn_seq (by with_unfolding_all rfl) (ed_var 1) (ed_var 0)))) (fun _ _ _ _ _ => (ed_var 1))) ad_nil))))
theorem ok_is_line (B : Bi mg) (F : FunD K "is_line" "is_line" (defArgs s_is_line) (defBody s_is_line) (defScope s_is_line) dvs kws f fd) : FnOk P w K mg base CX0 1 f fd ["history"] (spD K 1 F_is_line) :=
  fnD F sc_is_line rfl rfl fun cdv A outer s H E hr => (ssd_one (sd_ret (ed_cmp vb_eq (op_eqD hr.units) (nomark _) (ed_var 0) (ed_trg (rgd1 (ed_cb vc_len call_len_seq B.len (ad_cons (ed_var 0) ad_nil)) B.range) rfl B.tuple))))
theorem ok__law_mixed (B : Bi mg) (F : FunD K "_law_mixed" "_law_mixed" (defArgs s__law_mixed) (defBody s__law_mixed) (defScope s__law_mixed) dvs kws f fd) : FnOk P w K mg base CX0 1 f fd ["_law_state"] (spD K 1 F__law_mixed) :=
  fnD F sc__law_mixed rfl rfl fun cdv A outer s H E hr => (ssd_cons (sd_setF 1 sc__law_mixed.nd (ed_op vb_mod op_mod (ed_ct vc_int call_int1 B.int (ad_cons (ed_op vb_mul op_mul2 (ed_var 0) (ed_op vb_add op_add3 (ed_op vb_mod op_mod (ed_ct vc_int call_int1 B.int (ad_cons (ed_op vb_div op_fdivW (ed_var 0) ed_int) ad_nil)) ed_int) ed_int)) ad_nil)) ed_int))
  (ssd_cons (sd_ret (ed_op vb_mod op_mod (ed_ct vc_int call_int1 B.int (ad_cons (ed_op vb_div op_fdivW (ed_op vb_mod op_mod (ed_ct vc_int call_int1 B.int (ad_cons (ed_op vb_mul op_mul2 (ed_var 1) (ed_op vb_add op_add3 (ed_op vb_mod op_mod (ed_ct vc_int call_int1 B.int (ad_cons (ed_op vb_div op_fdivW (ed_var 1) ed_int) ad_nil)) ed_int) ed_int)) ad_nil)) ed_int) ed_int) ad_nil)) ed_int))
  ssd_nil))
theorem ok__law_tree (B : Bi mg) (F : FunD K "_law_tree" "_law_tree" (defArgs s__law_tree) (defBody s__law_tree) (defScope s__law_tree) dvs kws f fd) : FnOk P w K mg base CX0 1 f fd ["_law_b", "_law_size", "_law_shape"] (spD K 3 F__law_tree) :=
  fnD F sc__law_tree rfl rfl fun cdv A outer s H E hr => (ssd_cons (sd_set 3 sc__law_tree.nd (ed_lst ad_nil))
  (ssd_cons (sd_for rfl PassesOwn.never (id_rng2 ed_int (ed_op vb_add op_add3 (ed_var 1) ed_int) B.range) (gd_name (i := 4) sc__law_tree.nd rfl (by first | exact .inl rfl | exact .inr rfl))
  (ssd_one (sd_if (td_cmp vb_eq (op_eqD hr.units) (nomark _) (ed_var 2) ed_int)
  (ssd_one (sd_expr (ed_app 3 (ed_op vb_sub op_sub (ed_var 4) ed_int))))
  (ssd_one (sd_if (td_cmp vb_eq (op_eqD hr.units) (nomark _) (ed_var 2) ed_int)
  (ssd_one (sd_expr (ed_app 3 (ed_cb vc_min2 (call_min2 rfl) B.min (ad_cons (ed_op vb_sub op_sub (ed_var 4) ed_int) (ad_cons (ed_op vb_mod op_mod (ed_ct vc_int call_int1 B.int (ad_cons (ed_ix (ed_var 0) ed_int) ad_nil)) ed_int) ad_nil))))))
  (ssd_one (sd_if (td_cmp vb_eq (op_eqD hr.units) (nomark _) (ed_var 2) ed_int)
  (ssd_one (sd_expr (ed_app 3 (ed_cb vc_max2 (call_max2 rfl) B.max (ad_cons ed_int (ad_cons (ed_op vb_sub op_sub (ed_op vb_sub op_sub (ed_var 4) ed_int) (ed_op vb_mod op_mod (ed_ct vc_int call_int1 B.int (ad_cons (ed_ix (ed_var 0) (ed_op vb_sub op_sub (ed_var 4) ed_int)) ad_nil)) ed_int)) ad_nil))))))
  (ssd_one (sd_if (td_cmp vb_eq (op_eqD hr.units) (nomark _) (ed_var 2) ed_int)
  (ssd_one (sd_expr (ed_app 3 (ed_op vb_div op_fdivW (ed_var 4) ed_int))))
  (ssd_one (sd_expr (ed_app 3 (ed_op vb_mod op_mod (ed_ct vc_int call_int1 B.int (ad_cons (ed_ix (ed_var 0) (ed_op vb_sub op_sub (ed_var 4) ed_int)) ad_nil)) (ed_var 4))))))))))))))
  (ssd_cons (sd_ret (ed_ct vc_tuple call_tuple_of B.tuple (ad_cons (ed_var 3) ad_nil)))
  ssd_nil)))
theorem ok__law_ups (F : FunD K "_law_ups" "_law_ups" (defArgs s__law_ups) (defBody s__law_ups) (defScope s__law_ups) dvs kws f fd) : FnOk P w K mg base CX0 1 f fd ["_law_tree_here"] (spD K 1 F__law_ups) :=
  fnD F sc__law_ups rfl rfl fun cdv A outer s H E hr => (ssd_cons (sd_set 1 sc__law_ups.nd (ed_lst (ad_cons (ed_lst ad_nil) ad_nil)))
  (ssd_cons (sd_for rfl PassesOwn.never (id_seq (ed_var 0)) (gd_name (i := 2) sc__law_ups.nd rfl (by first | exact .inl rfl | exact .inr rfl))
  (ssd_one (sd_expr (ed_app 1 (ed_op vb_add op_add3 (ed_lst (ad_cons (ed_var 2) ad_nil)) (ed_ix (ed_var 1) (ed_var 2)))))))
  (ssd_cons (sd_ret (ed_var 1))
  ssd_nil)))
theorem ok__law_thing (B : Bi mg) (F : FunD K "_law_thing" "_law_thing" (defArgs s__law_thing) (defBody s__law_thing) (defScope s__law_thing) dvs kws f fd) : FnOk P w K mg base CX0 1 f fd ["_law_b", "_law_tree_here"] (spD K 2 F__law_thing) :=
  fnD F sc__law_thing rfl rfl fun cdv A outer s H E hr => (ssd_cons (sd_setF 2 sc__law_thing.nd (ed_op vb_mod op_mod (ed_ct vc_int call_int1 B.int (ad_cons (ed_ix (ed_var 0) ed_int) ad_nil)) ed_int))
  (ssd_cons (sd_setF 3 sc__law_thing.nd (ed_ct vc_list call_list_of B.list (ad_cons (ed_var 1) ad_nil)))
  (ssd_cons (sd_if (td_cmp vq_lt (oq_lt hr.units) (nomark _) (ed_var 2) ed_int)
  (ssd_one (by first | exact sd_setLcF 3 (own := [("_law_k", 4)]) rfl sc__law_thing.nd (id_rng1 (ed_op vb_add op_add3 ed_int (ed_op vb_mod op_mod (ed_ct vc_int call_int1 B.int (ad_cons (ed_ix (ed_var 0) ed_int) ad_nil)) ed_int)) B.range) (by first | decide | with_unfolding_all rfl) (by decide) (fun _ _ _ _ _ => (gd_name (i := 4) sc__law_thing.nd rfl (by first | exact .inl rfl | exact .inr rfl))) (fun _ _ _ _ _ => ptd_nil) (fun _ _ _ _ _ => (ed_cb vc_max2 (call_max2 rfl) B.max (ad_cons ed_int (ad_cons (ed_op vb_sub op_sub (ed_var 4) (ed_op vb_mod op_mod (ed_ct vc_int call_int1 B.int (ad_cons (ed_ix (ed_var 0) ed_int) ad_nil)) ed_int)) ad_nil)))) | exact sd_setF 3 sc__law_thing.nd (ed_lc (own := [("_law_k", 4)]) rfl sc__law_thing.nd (id_rng1 (ed_op vb_add op_add3 ed_int (ed_op vb_mod op_mod (ed_ct vc_int call_int1 B.int (ad_cons (ed_ix (ed_var 0) ed_int) ad_nil)) ed_int)) B.range) (by first | decide | with_unfolding_all rfl) (by decide) (fun _ _ _ _ _ => (gd_name (i := 4) sc__law_thing.nd rfl (by first | exact .inl rfl | exact .inr rfl))) (fun _ _ _ _ _ => ptd_nil) (fun _ _ _ _ _ => (ed_cb vc_max2 (call_max2 rfl) B.max (ad_cons ed_int (ad_cons (ed_op vb_sub op_sub (ed_var 4) (ed_op vb_mod op_mod (ed_ct vc_int call_int1 B.int (ad_cons (ed_ix (ed_var 0) ed_int) ad_nil)) ed_int)) ad_nil)))))))
  ssd_nil)
  (ssd_cons (sd_if (td_cmp vb_eq (op_eqD hr.units) (nomark _) (ed_var 2) ed_int)
  (ssd_one (sd_ret (ed_ct vc_tuple call_tuple_of B.tuple (ad_cons (ed_var 3) ad_nil))))
  ssd_nil)
  (ssd_cons (sd_if (td_cmp vb_eq (op_eqD hr.units) (nomark _) (ed_var 2) ed_int)
  (ssd_one (sd_ret (ed_var 3)))
  ssd_nil)
  (ssd_cons (sd_if (td_cmp vb_eq (op_eqD hr.units) (nomark _) (ed_var 2) ed_int)
  (ssd_one (sd_ret (ed_ix (ed_tup (ad_cons ed_non (ad_cons ed_int (ad_cons ed_str (ad_cons ed_str (ad_cons ed_bl (ad_cons (ed_lst (ad_cons (ed_var 1) ad_nil)) (ad_cons ed_int (ad_cons ed_int ad_nil))))))))) (ed_op vb_mod op_mod (ed_ct vc_int call_int1 B.int (ad_cons (ed_ix (ed_var 0) ed_int) ad_nil)) ed_int))))
  ssd_nil)
  (ssd_cons (sd_if (td_cmp vb_eq (op_eqD hr.units) (nomark _) (ed_var 2) ed_int)
  (ssd_one (sd_ret (ed_var 1)))
  ssd_nil)
  (ssd_cons (sd_for rfl PassesOwn.never (id_rng1 (ed_op vb_add op_add3 ed_int (ed_op vb_mod op_mod (ed_ct vc_int call_int1 B.int (ad_cons (ed_ix (ed_var 0) ed_int) ad_nil)) ed_int)) B.range) (gd_name (i := 4) sc__law_thing.nd rfl (by first | exact .inl rfl | exact .inr rfl))
  (ssd_cons (sd_setF 5 sc__law_thing.nd (ed_op vb_mod op_mod (ed_ct vc_int call_int1 B.int (ad_cons (ed_ix (ed_var 0) (ed_op vb_add op_add3 ed_int (ed_var 4))) ad_nil)) (ed_op vb_add op_add3 (ed_cb vc_len call_len_seq B.len (ad_cons (ed_var 3) ad_nil)) ed_int)))
  (ssd_cons (sd_setF 6 sc__law_thing.nd (ed_ix (ed_tup (ad_cons (ed_op vb_add op_add3 (ed_var 5) ed_int) (ad_cons (ed_var 5) (ad_cons (ed_neg ed_int) (ad_cons ed_bl (ad_cons ed_bl (ad_cons ed_non (ad_cons ed_str (ad_cons (ed_tup (ad_cons ed_int ad_nil)) (ad_cons (ed_op vb_pow op_pow ed_int ed_int) (ad_cons (ed_lst (ad_cons ed_int ad_nil)) (ad_cons (ed_op vb_add op_add3 (ed_var 5) ed_int) (ad_cons ed_int (ad_cons (ed_cb vc_len call_len_seq B.len (ad_cons (ed_var 3) ad_nil)) (ad_cons (ed_neg (ed_var 5)) ad_nil))))))))))))))) (ed_op vb_mod op_mod (ed_ct vc_int call_int1 B.int (ad_cons (ed_ix (ed_var 0) (ed_op vb_add op_add3 ed_int (ed_var 4))) ad_nil)) ed_int)))
  (ssd_cons (sd_setF 3 sc__law_thing.nd (ed_op vb_add op_add3 (ed_op vb_add op_add3 (ed_sl (ed_var 3) od_no (od_at (ed_var 5))) (ed_lst (ad_cons (ed_var 6) ad_nil))) (ed_sl (ed_var 3) (od_at (ed_op vb_add op_add3 (ed_var 5) ed_int)) od_no)))
  ssd_nil))))
  (ssd_cons (sd_ret (ed_ct vc_tuple call_tuple_of B.tuple (ad_cons (ed_var 3) ad_nil)))
  ssd_nil)))))))))
theorem ok__law_fault (B : Bi mg) (F : FunD K "_law_fault" "_law_fault" (defArgs s__law_fault) (defBody s__law_fault) (defScope s__law_fault) dvs kws f fd) : FnOk P w K mg base CX0 1 f fd ["_law_x"] (spD K 1 F__law_fault) :=
  fnD F sc__law_fault rfl rfl fun cdv A outer s H E hr => (ssd_cons (sd_if (td_not (td_val (ed_isi .tuple (ed_var 0) B.isinstance B.tuple)))
  (ssd_one (sd_ret (ed_tup (ad_cons ed_str (ad_cons (ed_neg ed_int) ad_nil)))))
  ssd_nil)
  (ssd_cons (sd_for rfl PassesOwn.never (id_rng1 (ed_cb vc_len call_len_seq B.len (ad_cons (ed_var 0) ad_nil)) B.range) (gd_name (i := 1) sc__law_fault.nd rfl (by first | exact .inl rfl | exact .inr rfl))
  (ssd_one (sd_if (WD.td (wd_or (td_not (td_val (ed_isi .int (ed_ix (ed_var 0) (ed_var 1)) B.isinstance B.int))) (wd_or (td_val (ed_isi .bool (ed_ix (ed_var 0) (ed_var 1)) B.isinstance B.bool)) (wd_or (td_cmp vq_lt (oq_lt hr.units) (nomark _) (ed_ix (ed_var 0) (ed_var 1)) ed_int) (wd_or1 (td_cmp vq_gt (oq_gt hr.units) (nomark _) (ed_ix (ed_var 0) (ed_var 1)) (ed_var 1)))))))
  (ssd_one (sd_ret (ed_tup (ad_cons ed_str (ad_cons (ed_var 1) ad_nil)))))
  ssd_nil)))
  (ssd_cons (sd_ret ed_non)
  ssd_nil)))
theorem ok_is_number (F : FunD K "is_number" "is_number" (defArgs s_is_number) (defBody s_is_number) (defScope s_is_number) dvs kws f fd) (c_is_integer : Kf P w K mg base 1 "is_integer" (spD K 1 F_is_integer) []) : FnOk P w K mg base CX0 2 f fd ["thing"] (spD K 1 F_is_number) :=
  fnD F sc_is_number rfl rfl fun cdv A outer s H E hr => (ssd_one (sd_ret (ed_and (ed_call c_is_integer hr (by decide) dvs0 runF_len (ad_cons (ed_var 0) ad_nil)) (ed_one (ed_cmp vq_ge (oq_ge hr.units) (nomark _) (ed_var 0) ed_int)))))
theorem ok__law_draws (B : Bi mg) (F : FunD K "_law_draws" "_law_draws" (defArgs s__law_draws) (defBody s__law_draws) (defScope s__law_draws) dvs kws f fd) (c__law_mixed : Kf P w K mg base 1 "_law_mixed" (spD K 1 F__law_mixed) []) : FnOk P w K mg base CX0 2 f fd ["_law_script", "_law_size"] (spD K 2 F__law_draws) :=
  fnD F sc__law_draws rfl rfl fun cdv A outer s H E hr => (ssd_cons (sd_set 2 sc__law_draws.nd (ed_lst ad_nil))
  (ssd_cons (sd_setF 3 sc__law_draws.nd ed_int)
  (ssd_cons (sd_for rfl PassesOwn.never (id_seq (ed_var 0)) (gd_name (i := 4) sc__law_draws.nd rfl (by first | exact .inl rfl | exact .inr rfl))
  (ssd_cons (sd_setF 6 sc__law_draws.nd (ed_ct vc_int call_int1 B.int (ad_cons (ed_var 4) ad_nil)))
  (ssd_cons (sd_setF 3 sc__law_draws.nd (ed_op vb_mod op_mod (ed_ct vc_int call_int1 B.int (ad_cons (ed_op vb_add op_add3 (ed_op vb_add op_add3 (ed_op vb_mul op_mul2 (ed_var 3) ed_int) (ed_op vb_mod op_mod (ed_ct vc_int call_int1 B.int (ad_cons (ed_var 6) ad_nil)) ed_int)) ed_int) ad_nil)) ed_int))
  (ssd_cons (sd_if (WD.td (wd_and (td_cmp vq_lt (oq_lt hr.units) (nomark _) (ed_var 6) (ed_op vb_pow op_pow ed_int ed_int)) (wd_and1 (td_cmp vq_lt (oq_lt hr.units) (nomark _) (ed_cb vc_len call_len_seq B.len (ad_cons (ed_var 2) ad_nil)) (ed_var 1)))))
  (ssd_one (sd_expr (ed_app 2 (ed_call c__law_mixed hr (by decide) dvs0 runF_len (ad_cons (ed_var 3) ad_nil)))))
  ssd_nil)
  (ssd_cons (sd_if (td_cmp vq_ge (oq_ge hr.units) (nomark _) (ed_var 6) (ed_op vb_pow op_pow ed_int ed_int))
  (ssd_one (sd_for rfl PassesOwn.never (id_rng1 ed_int B.range) (gd_name (i := 5) sc__law_draws.nd rfl (by first | exact .inl rfl | exact .inr rfl))
  (ssd_one (sd_if (WD.td (wd_and (td_cmp vq_gt (oq_gt hr.units) (nomark _) (ed_var 6) ed_int) (wd_and1 (td_cmp vq_lt (oq_lt hr.units) (nomark _) (ed_cb vc_len call_len_seq B.len (ad_cons (ed_var 2) ad_nil)) (ed_var 1)))))
  (ssd_cons (sd_expr (ed_app 2 (ed_op vb_mod op_mod (ed_ct vc_int call_int1 B.int (ad_cons (ed_var 6) ad_nil)) ed_int)))
  (ssd_cons (sd_setF 6 sc__law_draws.nd (ed_op vb_div op_fdivW (ed_var 6) ed_int))
  ssd_nil))
  ssd_nil))))
  ssd_nil)
  ssd_nil)))))
  (ssd_cons (sd_for rfl PassesOwn.never (id_rng1 (ed_var 1) B.range) (gd_name (i := 5) sc__law_draws.nd rfl (by first | exact .inl rfl | exact .inr rfl))
  (ssd_one (sd_if (td_cmp vq_lt (oq_lt hr.units) (nomark _) (ed_cb vc_len call_len_seq B.len (ad_cons (ed_var 2) ad_nil)) (ed_var 1))
  (ssd_cons (sd_setF 3 sc__law_draws.nd (ed_op vb_mod op_mod (ed_ct vc_int call_int1 B.int (ad_cons (ed_op vb_mul op_mul2 (ed_var 3) ed_int) ad_nil)) ed_int))
  (ssd_cons (sd_expr (ed_app 2 (ed_call c__law_mixed hr (by decide) dvs0 runF_len (ad_cons (ed_var 3) ad_nil))))
  ssd_nil))
  ssd_nil)))
  (ssd_cons (sd_ret (ed_var 2))
  ssd_nil)))))
theorem ok_is_history (B : Bi mg) (F : FunD K "is_history" "is_history" (defArgs s_is_history) (defBody s_is_history) (defScope s_is_history) dvs kws f fd) (c_is_number : Kf P w K mg base 2 "is_number" (spD K 1 F_is_number) []) : FnOk P w K mg base CX0 3 f fd ["thing"] (spD K 1 F_is_history) :=
  fnD F sc_is_history rfl rfl fun cdv A outer s H E hr => (ssd_cons (sd_if (td_not (td_val (ed_isi .tuple (ed_var 0) B.isinstance B.tuple)))
  (ssd_one (sd_ret ed_bl))
  ssd_nil)
  (ssd_cons (sd_for rfl PassesOwn.never (id_enum (ed_var 0) B.enumerate) (gd_tup rfl (gsd_cons (i := 1) sc_is_history.nd rfl (by first | exact .inl rfl | exact .inr rfl) (gsd_cons (i := 2) sc_is_history.nd rfl (by first | exact .inl rfl | exact .inr rfl) gsd_nil)))
  (ssd_one (sd_if (WD.td (wd_or (td_not (td_val (ed_call c_is_number hr (by decide) dvs0 runF_len (ad_cons (ed_var 2) ad_nil)))) (wd_or1 (td_cmp vq_gt (oq_gt hr.units) (nomark _) (ed_var 2) (ed_var 1)))))
  (ssd_one (sd_ret ed_bl))
  ssd_nil)))
  (ssd_cons (sd_ret ed_bl)
  ssd_nil)))
theorem okx_check_version (B : Bi mg) (XI : Xi K mg xcs xys xfs xtab) (XT_NotUsable : ExT P w K mg base "NotUsable" ["word", "at"]) (F : FunD K "check_version" "check_version" (defArgs s_check_version) (defBody s_check_version) (defScope s_check_version) dvs kws f fd) (c_is_number : Kf P w K mg base 2 "is_number" (spD K 1 F_is_number) []) : FnOk P w K mg base (L2N.CX P w) 3 f fd ["history", "name", "thing", "least"] (spX K mg 4 FY_check_version) :=
  fnX F sc_check_version rfl rfl fun cdv A outer s H E hr tk => (ssdx_one (sdx_if (WD.td (wd_or (td_not (td_val (ed_call c_is_number hr (by decide) dvs0 runF_len (ad_cons (ed_var 2) ad_nil)))) (wd_or1 (td_not (td_chain vq_le (oq_le hr.units) vq_le (oq_le hr.units) (ed_var 3) (ed_var 2) (ed_cb vc_len call_len_seq B.len (ad_cons (ed_var 0) ad_nil)))))))
  (ssdx_one (sdx_raise XT_NotUsable hr (by decide) rfl tk (ad_cons (ed_var 1) (ad_cons (ed_neg ed_int) ad_nil))))
  ssdx_nil))
theorem ok_check_version (B : Bi mg) (F : FunD K "check_version" "check_version" (defArgs s_check_version) (defBody s_check_version) (defScope s_check_version) dvs kws f fd) (c_is_number : Kf P w K mg base 2 "is_number" (spD K 1 F_is_number) []) : FnOk P w K mg base CX0 3 f fd ["history", "name", "thing", "least"] (spD K 4 F_check_version) :=
  fnD F sc_check_version rfl rfl fun cdv A outer s H E hr => (ssd_one (sd_if (WD.td (wd_or (td_not (td_val (ed_call c_is_number hr (by decide) dvs0 runF_len (ad_cons (ed_var 2) ad_nil)))) (wd_or1 (td_not (td_chain vq_le (oq_le hr.units) vq_le (oq_le hr.units) (ed_var 3) (ed_var 2) (ed_cb vc_len call_len_seq B.len (ad_cons (ed_var 0) ad_nil)))))))
  (ssd_one sd_never)
  ssd_nil))
theorem okx_lets_history (B : Bi mg) (XI : Xi K mg xcs xys xfs xtab) (XT_InvalidPaper : ExT P w K mg base "InvalidPaper" ["word", "at"]) (F : FunD K "lets_history" "lets_history" (defArgs s_lets_history) (defBody s_lets_history) (defScope s_lets_history) dvs kws f fd) (c_is_number : Kf P w K mg base 2 "is_number" (spD K 1 F_is_number) []) : FnOk P w K mg base (L2N.CX P w) 3 f fd ["thing"] (spX K mg 1 FY_lets_history) :=
  fnX F sc_lets_history rfl rfl fun cdv A outer s H E hr tk => (ssdx_cons (sdx_if (td_not (td_val (ed_isi .tuple (ed_var 0) B.isinstance B.tuple)))
  (ssdx_one (sdx_raise XT_InvalidPaper hr (by decide) rfl tk (ad_cons ed_str (ad_cons (ed_neg ed_int) ad_nil))))
  ssdx_nil)
  (ssdx_cons (sdx_for rfl (passes_of rfl) (id_enum (ed_var 0) B.enumerate) (gd_tup rfl (gsd_cons (i := 1) sc_lets_history.nd rfl (by first | exact .inl rfl | exact .inr rfl) (gsd_cons (i := 2) sc_lets_history.nd rfl (by first | exact .inl rfl | exact .inr rfl) gsd_nil)))
  (ssdx_one (sdx_if (WD.td (wd_or (td_not (td_val (ed_call c_is_number hr (by decide) dvs0 runF_len (ad_cons (ed_var 2) ad_nil)))) (wd_or1 (td_cmp vq_gt (oq_gt hr.units) (nomark _) (ed_var 2) (ed_var 1)))))
  (ssdx_one (sdx_raise XT_InvalidPaper hr (by decide) rfl tk (ad_cons ed_str (ad_cons (ed_var 1) ad_nil))))
  ssdx_nil)))
  (ssdx_cons (SD.x (sd_ret (ed_cb vc_len call_len_seq B.len (ad_cons (ed_var 0) ad_nil))))
  ssdx_nil)))
theorem ok_lets_history (B : Bi mg) (F : FunD K "lets_history" "lets_history" (defArgs s_lets_history) (defBody s_lets_history) (defScope s_lets_history) dvs kws f fd) (c_is_number : Kf P w K mg base 2 "is_number" (spD K 1 F_is_number) []) : FnOk P w K mg base CX0 3 f fd ["thing"] (spD K 1 F_lets_history) :=
  fnD F sc_lets_history rfl rfl fun cdv A outer s H E hr => (ssd_cons (sd_if (td_not (td_val (ed_isi .tuple (ed_var 0) B.isinstance B.tuple)))
  (ssd_one sd_never)
  ssd_nil)
  (ssd_cons (sd_for rfl PassesOwn.never (id_enum (ed_var 0) B.enumerate) (gd_tup rfl (gsd_cons (i := 1) sc_lets_history.nd rfl (by first | exact .inl rfl | exact .inr rfl) (gsd_cons (i := 2) sc_lets_history.nd rfl (by first | exact .inl rfl | exact .inr rfl) gsd_nil)))
  (ssd_one (sd_if (WD.td (wd_or (td_not (td_val (ed_call c_is_number hr (by decide) dvs0 runF_len (ad_cons (ed_var 2) ad_nil)))) (wd_or1 (td_cmp vq_gt (oq_gt hr.units) (nomark _) (ed_var 2) (ed_var 1)))))
  (ssd_one sd_never)
  ssd_nil)))
  (ssd_cons (sd_ret (ed_cb vc_len call_len_seq B.len (ad_cons (ed_var 0) ad_nil)))
  ssd_nil)))
theorem okx_parent_of (F : FunD K "parent_of" "parent_of" (defArgs s_parent_of) (defBody s_parent_of) (defScope s_parent_of) dvs kws f fd) (c_Xcheck_version : KfX P w K mg base 3 "check_version" (spX K mg 4 FX_check_version) []) : FnOk P w K mg base (L2N.CX P w) 4 f fd ["history", "version"] (spX K mg 2 FY_parent_of) :=
  fnX F sc_parent_of rfl rfl fun cdv A outer s H E hr tk => (ssdx_cons (sdx_expr (edx_call c_Xcheck_version hr (by decide) dvs0 (orRx_len runF_len runX_len) tk (ad_cons (ed_var 0) (ad_cons ed_str (ad_cons (ed_var 1) (ad_cons ed_int ad_nil))))))
  (ssdx_cons (SD.x (sd_ret (ed_ix (ed_var 0) (ed_op vb_sub op_sub (ed_var 1) ed_int))))
  ssdx_nil))
theorem ok_parent_of (F : FunD K "parent_of" "parent_of" (defArgs s_parent_of) (defBody s_parent_of) (defScope s_parent_of) dvs kws f fd) (c_check_version : Kf P w K mg base 3 "check_version" (spD K 4 F_check_version) []) : FnOk P w K mg base CX0 4 f fd ["history", "version"] (spD K 2 F_parent_of) :=
  fnD F sc_parent_of rfl rfl fun cdv A outer s H E hr => (ssd_cons (sd_expr (ed_call c_check_version hr (by decide) dvs0 runF_len (ad_cons (ed_var 0) (ad_cons ed_str (ad_cons (ed_var 1) (ad_cons ed_int ad_nil))))))
  (ssd_cons (sd_ret (ed_ix (ed_var 0) (ed_op vb_sub op_sub (ed_var 1) ed_int)))
  ssd_nil))
theorem okx_elders_of (B : Bi mg) (F : FunD K "elders_of" "elders_of" (defArgs s_elders_of) (defBody s_elders_of) (defScope s_elders_of) dvs kws f fd) (c_Xcheck_version_3 : KfX P w K mg base 3 "check_version" (spX K mg 4 FX_check_version) [.int 0]) (c__upward : Kf P w K mg base 1 "_upward" (spD K 2 F__upward) []) : FnOk P w K mg base (L2N.CX P w) 4 f fd ["history", "version"] (spX K mg 2 FY_elders_of) :=
  fnX F sc_elders_of rfl rfl fun cdv A outer s H E hr tk => (ssdx_cons (sdx_expr (edx_call c_Xcheck_version_3 hr (by decide) (dvsI dvs0) (orRx_len runF_len runX_len) tk (ad_cons (ed_var 0) (ad_cons ed_str (ad_cons (ed_var 1) ad_nil)))))
  (ssdx_cons (SD.x (sd_ret (ed_ct vc_tuple call_tuple_of B.tuple (ad_cons (ed_call c__upward hr (by decide) dvs0 runF_len (ad_cons (ed_var 0) (ad_cons (ed_var 1) ad_nil))) ad_nil))))
  ssdx_nil))
theorem ok_elders_of (B : Bi mg) (F : FunD K "elders_of" "elders_of" (defArgs s_elders_of) (defBody s_elders_of) (defScope s_elders_of) dvs kws f fd) (c__upward : Kf P w K mg base 1 "_upward" (spD K 2 F__upward) []) (c_check_version_3 : Kf P w K mg base 3 "check_version" (spD K 4 F_check_version) [.int 0]) : FnOk P w K mg base CX0 4 f fd ["history", "version"] (spD K 2 F_elders_of) :=
  fnD F sc_elders_of rfl rfl fun cdv A outer s H E hr => (ssd_cons (sd_expr (ed_call c_check_version_3 hr (by decide) (dvsI dvs0) runF_len (ad_cons (ed_var 0) (ad_cons ed_str (ad_cons (ed_var 1) ad_nil)))))
  (ssd_cons (sd_ret (ed_ct vc_tuple call_tuple_of B.tuple (ad_cons (ed_call c__upward hr (by decide) dvs0 runF_len (ad_cons (ed_var 0) (ad_cons (ed_var 1) ad_nil))) ad_nil)))
  ssd_nil))
theorem okx_path_of (B : Bi mg) (F : FunD K "path_of" "path_of" (defArgs s_path_of) (defBody s_path_of) (defScope s_path_of) dvs kws f fd) (c_Xcheck_version_3 : KfX P w K mg base 3 "check_version" (spX K mg 4 FX_check_version) [.int 0]) (c__upward : Kf P w K mg base 1 "_upward" (spD K 2 F__upward) []) : FnOk P w K mg base (L2N.CX P w) 4 f fd ["history", "version"] (spX K mg 2 FY_path_of) :=
  fnX F sc_path_of rfl rfl fun cdv A outer s H E hr tk => (ssdx_cons (sdx_expr (edx_call c_Xcheck_version_3 hr (by decide) (dvsI dvs0) (orRx_len runF_len runX_len) tk (ad_cons (ed_var 0) (ad_cons ed_str (ad_cons (ed_var 1) ad_nil)))))
  (ssdx_cons (SD.x (sd_setF 2 sc_path_of.nd (ed_op vb_add op_add3 (ed_lst (ad_cons (ed_var 1) ad_nil)) (ed_call c__upward hr (by decide) dvs0 runF_len (ad_cons (ed_var 0) (ad_cons (ed_var 1) ad_nil))))))
  (ssdx_cons (SD.x (sd_ret (ed_ct vc_tuple call_tuple_of B.tuple (ad_cons (ed_lc (own := [("elder", 3)]) rfl sc_path_of.nd (id_rev (ed_var 2) B.reversed) (by first | decide | with_unfolding_all rfl) (by decide) (fun _ _ _ _ _ => (gd_name (i := 3) sc_path_of.nd rfl (by first | exact .inl rfl | exact .inr rfl))) (fun _ _ _ _ _ => (ptd_one (td_cmp vq_gt (oq_gt hr.units) (nomark _) (ed_var 3) ed_int))) (fun _ _ _ _ _ => (ed_var 3))) ad_nil))))
  ssdx_nil)))
theorem ok_path_of (B : Bi mg) (F : FunD K "path_of" "path_of" (defArgs s_path_of) (defBody s_path_of) (defScope s_path_of) dvs kws f fd) (c__upward : Kf P w K mg base 1 "_upward" (spD K 2 F__upward) []) (c_check_version_3 : Kf P w K mg base 3 "check_version" (spD K 4 F_check_version) [.int 0]) : FnOk P w K mg base CX0 4 f fd ["history", "version"] (spD K 2 F_path_of) :=
  fnD F sc_path_of rfl rfl fun cdv A outer s H E hr => (ssd_cons (sd_expr (ed_call c_check_version_3 hr (by decide) (dvsI dvs0) runF_len (ad_cons (ed_var 0) (ad_cons ed_str (ad_cons (ed_var 1) ad_nil)))))
  (ssd_cons (sd_setF 2 sc_path_of.nd (ed_op vb_add op_add3 (ed_lst (ad_cons (ed_var 1) ad_nil)) (ed_call c__upward hr (by decide) dvs0 runF_len (ad_cons (ed_var 0) (ad_cons (ed_var 1) ad_nil)))))
  (ssd_cons (sd_ret (ed_ct vc_tuple call_tuple_of B.tuple (ad_cons (ed_lc (own := [("elder", 3)]) rfl sc_path_of.nd (id_rev (ed_var 2) B.reversed) (by first | decide | with_unfolding_all rfl) (by decide) (fun _ _ _ _ _ => (gd_name (i := 3) sc_path_of.nd rfl (by first | exact .inl rfl | exact .inr rfl))) (fun _ _ _ _ _ => (ptd_one (td_cmp vq_gt (oq_gt hr.units) (nomark _) (ed_var 3) ed_int))) (fun _ _ _ _ _ => (ed_var 3))) ad_nil)))
  ssd_nil)))
theorem okx_is_elder (F : FunD K "is_elder" "is_elder" (defArgs s_is_elder) (defBody s_is_elder) (defScope s_is_elder) dvs kws f fd) (c_Xcheck_version_3 : KfX P w K mg base 3 "check_version" (spX K mg 4 FX_check_version) [.int 0]) (c__upward : Kf P w K mg base 1 "_upward" (spD K 2 F__upward) []) : FnOk P w K mg base (L2N.CX P w) 4 f fd ["history", "one", "other"] (spX K mg 3 FY_is_elder) :=
  fnX F sc_is_elder rfl rfl fun cdv A outer s H E hr tk => (ssdx_cons (sdx_expr (edx_call c_Xcheck_version_3 hr (by decide) (dvsI dvs0) (orRx_len runF_len runX_len) tk (ad_cons (ed_var 0) (ad_cons ed_str (ad_cons (ed_var 1) ad_nil)))))
  (ssdx_cons (sdx_expr (edx_call c_Xcheck_version_3 hr (by decide) (dvsI dvs0) (orRx_len runF_len runX_len) tk (ad_cons (ed_var 0) (ad_cons ed_str (ad_cons (ed_var 2) ad_nil)))))
  (ssdx_cons (SD.x (sd_ret (ed_cmp vb_inB op_in_seq (by with_unfolding_all rfl) (ed_var 1) (ed_call c__upward hr (by decide) dvs0 runF_len (ad_cons (ed_var 0) (ad_cons (ed_var 2) ad_nil))))))
  ssdx_nil)))
theorem ok_is_elder (F : FunD K "is_elder" "is_elder" (defArgs s_is_elder) (defBody s_is_elder) (defScope s_is_elder) dvs kws f fd) (c__upward : Kf P w K mg base 1 "_upward" (spD K 2 F__upward) []) (c_check_version_3 : Kf P w K mg base 3 "check_version" (spD K 4 F_check_version) [.int 0]) : FnOk P w K mg base CX0 4 f fd ["history", "one", "other"] (spD K 3 F_is_elder) :=
  fnD F sc_is_elder rfl rfl fun cdv A outer s H E hr => (ssd_cons (sd_expr (ed_call c_check_version_3 hr (by decide) (dvsI dvs0) runF_len (ad_cons (ed_var 0) (ad_cons ed_str (ad_cons (ed_var 1) ad_nil)))))
  (ssd_cons (sd_expr (ed_call c_check_version_3 hr (by decide) (dvsI dvs0) runF_len (ad_cons (ed_var 0) (ad_cons ed_str (ad_cons (ed_var 2) ad_nil)))))
  (ssd_cons (sd_ret (ed_cmp vb_inB op_in_seq (by with_unfolding_all rfl) (ed_var 1) (ed_call c__upward hr (by decide) dvs0 runF_len (ad_cons (ed_var 0) (ad_cons (ed_var 2) ad_nil)))))
  ssd_nil)))
theorem okx_meet_of (F : FunD K "meet_of" "meet_of" (defArgs s_meet_of) (defBody s_meet_of) (defScope s_meet_of) dvs kws f fd) (c_Xcheck_version_3 : KfX P w K mg base 3 "check_version" (spX K mg 4 FX_check_version) [.int 0]) : FnOk P w K mg base (L2N.CX P w) 4 f fd ["history", "one", "other"] (spX K mg 3 FY_meet_of) :=
  fnX F sc_meet_of rfl rfl fun cdv A outer s H E hr tk => (ssdx_cons (sdx_expr (edx_call c_Xcheck_version_3 hr (by decide) (dvsI dvs0) (orRx_len runF_len runX_len) tk (ad_cons (ed_var 0) (ad_cons ed_str (ad_cons (ed_var 1) ad_nil)))))
  (ssdx_cons (sdx_expr (edx_call c_Xcheck_version_3 hr (by decide) (dvsI dvs0) (orRx_len runF_len runX_len) tk (ad_cons (ed_var 0) (ad_cons ed_str (ad_cons (ed_var 2) ad_nil)))))
  (ssdx_cons (SD.x (sd_while (fun _ => 3000) (passes_of rfl) (td_cmp vb_ne (op_neD hr.units) (nomark _) (ed_var 1) (ed_var 2))
  (ssd_one (sd_if (td_cmp vq_gt (oq_gt hr.units) (nomark _) (ed_var 1) (ed_var 2))
  (ssd_one (sd_setF 1 sc_meet_of.nd (ed_ix (ed_var 0) (ed_op vb_sub op_sub (ed_var 1) ed_int))))
  (ssd_one (sd_setF 2 sc_meet_of.nd (ed_ix (ed_var 0) (ed_op vb_sub op_sub (ed_var 2) ed_int))))))))
  (ssdx_cons (SD.x (sd_ret (ed_var 1)))
  ssdx_nil))))
theorem ok_meet_of (F : FunD K "meet_of" "meet_of" (defArgs s_meet_of) (defBody s_meet_of) (defScope s_meet_of) dvs kws f fd) (c_check_version_3 : Kf P w K mg base 3 "check_version" (spD K 4 F_check_version) [.int 0]) : FnOk P w K mg base CX0 4 f fd ["history", "one", "other"] (spD K 3 F_meet_of) :=
  fnD F sc_meet_of rfl rfl fun cdv A outer s H E hr => (ssd_cons (sd_expr (ed_call c_check_version_3 hr (by decide) (dvsI dvs0) runF_len (ad_cons (ed_var 0) (ad_cons ed_str (ad_cons (ed_var 1) ad_nil)))))
  (ssd_cons (sd_expr (ed_call c_check_version_3 hr (by decide) (dvsI dvs0) runF_len (ad_cons (ed_var 0) (ad_cons ed_str (ad_cons (ed_var 2) ad_nil)))))
  (ssd_cons (sd_while (fun _ => 3000) PassesOwn.never (td_cmp vb_ne (op_neD hr.units) (nomark _) (ed_var 1) (ed_var 2))
  (ssd_one (sd_if (td_cmp vq_gt (oq_gt hr.units) (nomark _) (ed_var 1) (ed_var 2))
  (ssd_one (sd_setF 1 sc_meet_of.nd (ed_ix (ed_var 0) (ed_op vb_sub op_sub (ed_var 1) ed_int))))
  (ssd_one (sd_setF 2 sc_meet_of.nd (ed_ix (ed_var 0) (ed_op vb_sub op_sub (ed_var 2) ed_int)))))))
  (ssd_cons (sd_ret (ed_var 1))
  ssd_nil))))
theorem okx_depth_of (B : Bi mg) (F : FunD K "depth_of" "depth_of" (defArgs s_depth_of) (defBody s_depth_of) (defScope s_depth_of) dvs kws f fd) (c_Xcheck_version_3 : KfX P w K mg base 3 "check_version" (spX K mg 4 FX_check_version) [.int 0]) (c__upward : Kf P w K mg base 1 "_upward" (spD K 2 F__upward) []) : FnOk P w K mg base (L2N.CX P w) 4 f fd ["history", "version"] (spX K mg 2 FY_depth_of) :=
  fnX F sc_depth_of rfl rfl fun cdv A outer s H E hr tk => (ssdx_cons (sdx_expr (edx_call c_Xcheck_version_3 hr (by decide) (dvsI dvs0) (orRx_len runF_len runX_len) tk (ad_cons (ed_var 0) (ad_cons ed_str (ad_cons (ed_var 1) ad_nil)))))
  (ssdx_cons (SD.x (sd_ret (ed_cb vc_len call_len_seq B.len (ad_cons (ed_call c__upward hr (by decide) dvs0 runF_len (ad_cons (ed_var 0) (ad_cons (ed_var 1) ad_nil))) ad_nil))))
  ssdx_nil))
theorem ok_depth_of (B : Bi mg) (F : FunD K "depth_of" "depth_of" (defArgs s_depth_of) (defBody s_depth_of) (defScope s_depth_of) dvs kws f fd) (c__upward : Kf P w K mg base 1 "_upward" (spD K 2 F__upward) []) (c_check_version_3 : Kf P w K mg base 3 "check_version" (spD K 4 F_check_version) [.int 0]) : FnOk P w K mg base CX0 4 f fd ["history", "version"] (spD K 2 F_depth_of) :=
  fnD F sc_depth_of rfl rfl fun cdv A outer s H E hr => (ssd_cons (sd_expr (ed_call c_check_version_3 hr (by decide) (dvsI dvs0) runF_len (ad_cons (ed_var 0) (ad_cons ed_str (ad_cons (ed_var 1) ad_nil)))))
  (ssd_cons (sd_ret (ed_cb vc_len call_len_seq B.len (ad_cons (ed_call c__upward hr (by decide) dvs0 runF_len (ad_cons (ed_var 0) (ad_cons (ed_var 1) ad_nil))) ad_nil)))
  ssd_nil))
theorem okx_children_of (B : Bi mg) (F : FunD K "children_of" "children_of" (defArgs s_children_of) (defBody s_children_of) (defScope s_children_of) dvs kws f fd) (c_Xcheck_version_3 : KfX P w K mg base 3 "check_version" (spX K mg 4 FX_check_version) [.int 0]) : FnOk P w K mg base (L2N.CX P w) 4 f fd ["history", "version"] (spX K mg 2 FY_children_of) :=
  fnX F sc_children_of rfl rfl fun cdv A outer s H E hr tk => (ssdx_cons (sdx_expr (edx_call c_Xcheck_version_3 hr (by decide) (dvsI dvs0) (orRx_len runF_len runX_len) tk (ad_cons (ed_var 0) (ad_cons ed_str (ad_cons (ed_var 1) ad_nil)))))
  (ssdx_cons (SD.x (sd_ret (ed_ct vc_tuple call_tuple_of B.tuple (ad_cons (ed_lc (own := [("k", 2), ("parent", 3)]) rfl sc_children_of.nd (id_enum (ed_var 0) B.enumerate) (by first | decide | with_unfolding_all rfl) (by decide) (fun _ _ _ _ _ => (gd_tup rfl (gsd_cons (i := 2) sc_children_of.nd rfl (by first | exact .inl rfl | exact .inr rfl) (gsd_cons (i := 3) sc_children_of.nd rfl (by first | exact .inl rfl | exact .inr rfl) gsd_nil)))) (fun _ _ _ _ _ => (ptd_one (td_cmp vb_eq (op_eqD hr.units) (nomark _) (ed_var 3) (ed_var 1)))) (fun _ _ _ _ _ => (ed_op vb_add op_add3 (ed_var 2) ed_int))) ad_nil))))
  ssdx_nil))
theorem ok_children_of (B : Bi mg) (F : FunD K "children_of" "children_of" (defArgs s_children_of) (defBody s_children_of) (defScope s_children_of) dvs kws f fd) (c_check_version_3 : Kf P w K mg base 3 "check_version" (spD K 4 F_check_version) [.int 0]) : FnOk P w K mg base CX0 4 f fd ["history", "version"] (spD K 2 F_children_of) :=
  fnD F sc_children_of rfl rfl fun cdv A outer s H E hr => (ssd_cons (sd_expr (ed_call c_check_version_3 hr (by decide) (dvsI dvs0) runF_len (ad_cons (ed_var 0) (ad_cons ed_str (ad_cons (ed_var 1) ad_nil)))))
  (ssd_cons (sd_ret (ed_ct vc_tuple call_tuple_of B.tuple (ad_cons (ed_lc (own := [("k", 2), ("parent", 3)]) rfl sc_children_of.nd (id_enum (ed_var 0) B.enumerate) (by first | decide | with_unfolding_all rfl) (by decide) (fun _ _ _ _ _ => (gd_tup rfl (gsd_cons (i := 2) sc_children_of.nd rfl (by first | exact .inl rfl | exact .inr rfl) (gsd_cons (i := 3) sc_children_of.nd rfl (by first | exact .inl rfl | exact .inr rfl) gsd_nil)))) (fun _ _ _ _ _ => (ptd_one (td_cmp vb_eq (op_eqD hr.units) (nomark _) (ed_var 3) (ed_var 1)))) (fun _ _ _ _ _ => (ed_op vb_add op_add3 (ed_var 2) ed_int))) ad_nil)))
  ssd_nil))
theorem okx_branch_of (B : Bi mg) (F : FunD K "branch_of" "branch_of" (defArgs s_branch_of) (defBody s_branch_of) (defScope s_branch_of) dvs kws f fd) (c_Xcheck_version_3 : KfX P w K mg base 3 "check_version" (spX K mg 4 FX_check_version) [.int 0]) : FnOk P w K mg base (L2N.CX P w) 4 f fd ["history", "version"] (spX K mg 2 FY_branch_of) :=
  fnX F sc_branch_of rfl rfl fun cdv A outer s H E hr tk => (ssdx_cons (sdx_expr (edx_call c_Xcheck_version_3 hr (by decide) (dvsI dvs0) (orRx_len runF_len runX_len) tk (ad_cons (ed_var 0) (ad_cons ed_str (ad_cons (ed_var 1) ad_nil)))))
  (ssdx_cons (SD.x (sd_set 2 sc_branch_of.nd (ed_rep (ad_cons ed_bl ad_nil) (ed_op vb_add op_add3 (ed_cb vc_len call_len_seq B.len (ad_cons (ed_var 0) ad_nil)) ed_int))))
  (ssdx_cons (SD.x (sd_put 2 ed_bl (ed_var 1)))
  (ssdx_cons (SD.x (sd_for rfl (passes_of rfl) (id_enum (ed_var 0) B.enumerate) (gd_tup rfl (gsd_cons (i := 3) sc_branch_of.nd rfl (by first | exact .inl rfl | exact .inr rfl) (gsd_cons (i := 4) sc_branch_of.nd rfl (by first | exact .inl rfl | exact .inr rfl) gsd_nil)))
  (ssd_one (sd_if (td_val (ed_ix (ed_var 2) (ed_var 4)))
  (ssd_one (sd_put 2 ed_bl (ed_op vb_add op_add3 (ed_var 3) ed_int)))
  ssd_nil))))
  (ssdx_cons (SD.x (SD.fz 2 (sd_ret (ed_ct vc_tuple call_tuple_of B.tuple (ad_cons (ed_lc (own := [("at", 5), ("is_in", 6)]) rfl sc_branch_of.nd (id_enum (ed_var 2) B.enumerate) (by first | decide | with_unfolding_all rfl) (by decide) (fun _ _ _ _ _ => (gd_tup rfl (gsd_cons (i := 5) sc_branch_of.nd rfl (by first | exact .inl rfl | exact .inr rfl) (gsd_cons (i := 6) sc_branch_of.nd rfl (by first | exact .inl rfl | exact .inr rfl) gsd_nil)))) (fun _ _ _ _ _ => (ptd_one (td_val (ed_var 6)))) (fun _ _ _ _ _ => (ed_var 5))) ad_nil)))))
  ssdx_nil)))))
theorem ok_branch_of (B : Bi mg) (F : FunD K "branch_of" "branch_of" (defArgs s_branch_of) (defBody s_branch_of) (defScope s_branch_of) dvs kws f fd) (c_check_version_3 : Kf P w K mg base 3 "check_version" (spD K 4 F_check_version) [.int 0]) : FnOk P w K mg base CX0 4 f fd ["history", "version"] (spD K 2 F_branch_of) :=
  fnD F sc_branch_of rfl rfl fun cdv A outer s H E hr => (ssd_cons (sd_expr (ed_call c_check_version_3 hr (by decide) (dvsI dvs0) runF_len (ad_cons (ed_var 0) (ad_cons ed_str (ad_cons (ed_var 1) ad_nil)))))
  (ssd_cons (sd_set 2 sc_branch_of.nd (ed_rep (ad_cons ed_bl ad_nil) (ed_op vb_add op_add3 (ed_cb vc_len call_len_seq B.len (ad_cons (ed_var 0) ad_nil)) ed_int)))
  (ssd_cons (sd_put 2 ed_bl (ed_var 1))
  (ssd_cons (sd_for rfl PassesOwn.never (id_enum (ed_var 0) B.enumerate) (gd_tup rfl (gsd_cons (i := 3) sc_branch_of.nd rfl (by first | exact .inl rfl | exact .inr rfl) (gsd_cons (i := 4) sc_branch_of.nd rfl (by first | exact .inl rfl | exact .inr rfl) gsd_nil)))
  (ssd_one (sd_if (td_val (ed_ix (ed_var 2) (ed_var 4)))
  (ssd_one (sd_put 2 ed_bl (ed_op vb_add op_add3 (ed_var 3) ed_int)))
  ssd_nil)))
  (ssd_cons (SD.fz 2 (sd_ret (ed_ct vc_tuple call_tuple_of B.tuple (ad_cons (ed_lc (own := [("at", 5), ("is_in", 6)]) rfl sc_branch_of.nd (id_enum (ed_var 2) B.enumerate) (by first | decide | with_unfolding_all rfl) (by decide) (fun _ _ _ _ _ => (gd_tup rfl (gsd_cons (i := 5) sc_branch_of.nd rfl (by first | exact .inl rfl | exact .inr rfl) (gsd_cons (i := 6) sc_branch_of.nd rfl (by first | exact .inl rfl | exact .inr rfl) gsd_nil)))) (fun _ _ _ _ _ => (ptd_one (td_val (ed_var 6)))) (fun _ _ _ _ _ => (ed_var 5))) ad_nil))))
  ssd_nil)))))
theorem ok__law_door (B : Bi mg) (XI : Xi K mg xcs xys xfs xtab) (F : FunD K "_law_door" "_law_door" (defArgs s__law_door) (defBody s__law_door) (defScope s__law_door) dvs kws f fd) (c_Xbranch_of : KfX P w K mg base 4 "branch_of" (spX K mg 2 FX_branch_of) []) (c_Xchildren_of : KfX P w K mg base 4 "children_of" (spX K mg 2 FX_children_of) []) (c_Xdepth_of : KfX P w K mg base 4 "depth_of" (spX K mg 2 FX_depth_of) []) (c_Xelders_of : KfX P w K mg base 4 "elders_of" (spX K mg 2 FX_elders_of) []) (c_Xis_elder : KfX P w K mg base 4 "is_elder" (spX K mg 3 FX_is_elder) []) (c_Xmeet_of : KfX P w K mg base 4 "meet_of" (spX K mg 3 FX_meet_of) []) (c_Xparent_of : KfX P w K mg base 4 "parent_of" (spX K mg 2 FX_parent_of) []) (c_Xpath_of : KfX P w K mg base 4 "path_of" (spX K mg 2 FX_path_of) []) : FnOk P w K mg base CX0 5 f fd ["_law_which", "_law_tree_here", "_law_x", "_law_v"] (spD K 4 F__law_door) :=
  fnD F sc__law_door rfl rfl fun cdv A outer s H E hr => (ssd_cons (sd_tryTF rfl rfl sc__law_door.nd (i := 4) (XI.sub "NotUsable") (fun W2 pn xe tk hp =>
  (ssdx_one (sdx_if (td_cmp vb_eq (op_eqD hr.units) (nomark _) (ed_var 0) ed_int)
  (ssdx_one (sdx_expr (edx_call c_Xparent_of hr (by decide) dvs0 (orRx_len runF_len runX_len) tk (ad_cons (ed_var 1) (ad_cons (ed_var 2) ad_nil)))))
  (ssdx_one (sdx_if (td_cmp vb_eq (op_eqD hr.units) (nomark _) (ed_var 0) ed_int)
  (ssdx_one (sdx_expr (edx_call c_Xelders_of hr (by decide) dvs0 (orRx_len runF_len runX_len) tk (ad_cons (ed_var 1) (ad_cons (ed_var 2) ad_nil)))))
  (ssdx_one (sdx_if (td_cmp vb_eq (op_eqD hr.units) (nomark _) (ed_var 0) ed_int)
  (ssdx_one (sdx_expr (edx_call c_Xpath_of hr (by decide) dvs0 (orRx_len runF_len runX_len) tk (ad_cons (ed_var 1) (ad_cons (ed_var 2) ad_nil)))))
  (ssdx_one (sdx_if (td_cmp vb_eq (op_eqD hr.units) (nomark _) (ed_var 0) ed_int)
  (ssdx_one (sdx_expr (edx_call c_Xdepth_of hr (by decide) dvs0 (orRx_len runF_len runX_len) tk (ad_cons (ed_var 1) (ad_cons (ed_var 2) ad_nil)))))
  (ssdx_one (sdx_if (td_cmp vb_eq (op_eqD hr.units) (nomark _) (ed_var 0) ed_int)
  (ssdx_one (sdx_expr (edx_call c_Xchildren_of hr (by decide) dvs0 (orRx_len runF_len runX_len) tk (ad_cons (ed_var 1) (ad_cons (ed_var 2) ad_nil)))))
  (ssdx_one (sdx_if (td_cmp vb_eq (op_eqD hr.units) (nomark _) (ed_var 0) ed_int)
  (ssdx_one (sdx_expr (edx_call c_Xbranch_of hr (by decide) dvs0 (orRx_len runF_len runX_len) tk (ad_cons (ed_var 1) (ad_cons (ed_var 2) ad_nil)))))
  (ssdx_one (sdx_if (td_cmp vb_eq (op_eqD hr.units) (nomark _) (ed_var 0) ed_int)
  (ssdx_one (sdx_expr (edx_call c_Xis_elder hr (by decide) dvs0 (orRx_len runF_len runX_len) tk (ad_cons (ed_var 1) (ad_cons (ed_var 2) (ad_cons (ed_var 3) ad_nil))))))
  (ssdx_one (sdx_if (td_cmp vb_eq (op_eqD hr.units) (nomark _) (ed_var 0) ed_int)
  (ssdx_one (sdx_expr (edx_call c_Xis_elder hr (by decide) dvs0 (orRx_len runF_len runX_len) tk (ad_cons (ed_var 1) (ad_cons (ed_var 3) (ad_cons (ed_var 2) ad_nil))))))
  (ssdx_one (sdx_if (td_cmp vb_eq (op_eqD hr.units) (nomark _) (ed_var 0) ed_int)
  (ssdx_one (sdx_expr (edx_call c_Xmeet_of hr (by decide) dvs0 (orRx_len runF_len runX_len) tk (ad_cons (ed_var 1) (ad_cons (ed_var 2) (ad_cons (ed_var 3) ad_nil))))))
  (ssdx_one (sdx_if (td_cmp vb_eq (op_eqD hr.units) (nomark _) (ed_var 0) ed_int)
  (ssdx_one (sdx_expr (edx_call c_Xmeet_of hr (by decide) dvs0 (orRx_len runF_len runX_len) tk (ad_cons (ed_var 1) (ad_cons (ed_var 3) (ad_cons (ed_var 2) ad_nil))))))
  (ssdx_one (sdx_if (td_cmp vb_eq (op_eqD hr.units) (nomark _) (ed_var 0) ed_int)
  (ssdx_one (sdx_expr (edx_call c_Xis_elder hr (by decide) dvs0 (orRx_len runF_len runX_len) tk (ad_cons (ed_var 1) (ad_cons (ed_var 2) (ad_cons (ed_var 2) ad_nil))))))
  (ssdx_one (sdx_expr (edx_call c_Xmeet_of hr (by decide) dvs0 (orRx_len runF_len runX_len) tk (ad_cons (ed_var 1) (ad_cons (ed_var 2) (ad_cons (ed_var 2) ad_nil))))))))))))))))))))))))))))) (fun k C a dd oe pn hk hz hf =>
  (ssd_one (sd_ret (ed_tup (ad_cons (ed_fld (XI.fld "word") hk hz.zc hf) (ad_cons (ed_fld (XI.fld "at") hk hz.zc hf) (ad_cons (ed_isT (XI.kit "BookError") hk hz.zc hf B.isinstance) (ad_cons (ed_isT (XI.kit "PaperError") hk hz.zc hf B.isinstance) ad_nil)))))))))
  (ssd_cons (sd_ret (ed_tup (ad_cons ed_str ad_nil)))
  ssd_nil))
theorem okh__law_same (B : Bi mg) (F : FunD K "_law_same" "_law_same" (defArgs s__law_same) (defBody s__law_same) (defScope s__law_same) dvs kws f fd) (hc : ∀ {k : Nat} {sp : Sp}, L2H.FnH P w K mg base CX0 k f fd ["_law_got", "_law_due"] sp → KfH P w K mg base k "_law_same" sp) : ∀ N, L2H.FnH P w K mg base CX0 (1 + N) f fd ["_law_got", "_law_due"] (spD K 2 (R__law_same N)) := by
  intro N
  induction N with
  | zero => exact fnH_void
  | succ N ih =>
    have c__law_same := hc ih
    exact fnDH F sc__law_same rfl rfl fun cdv A outer s H E p hr hot => (ssd_cons (sd_if (td_val (ed_isi .tuple (ed_var 1) B.isinstance B.tuple))
  (ssd_cons (sd_if (WD.td (wd_or (td_not (td_val (ed_isi .tuple (ed_var 0) B.isinstance B.tuple))) (wd_or1 (td_cmp vb_ne (op_neD hr.units) (nomark _) (ed_cb vc_len call_len_seq B.len (ad_cons (ed_var 0) ad_nil)) (ed_cb vc_len call_len_seq B.len (ad_cons (ed_var 1) ad_nil))))))
  (ssd_one (sd_ret ed_bl))
  ssd_nil)
  (ssd_cons (sd_ret (ed_cb vc_all (cr_allH hot) B.all (ad_cons (ed_lcH (own := [("_law_k", 2)]) hot sc__law_same.nd (ed_cb vc_len call_len_seq B.len (ad_cons (ed_var 1) ad_nil)) B.range (by first | decide | with_unfolding_all rfl) (by decide) (fun _ _ _ _ _ _ => (gd_name (i := 2) sc__law_same.nd rfl (by first | exact .inl rfl | exact .inr rfl))) (fun _ _ _ _ _ _ hot => ptd_nil) (fun _ _ _ _ _ _ hot => (ed_callH c__law_same hr hot (Nat.le_refl _) (len__law_same N) (ad_cons (ed_ix (ed_var 0) (ed_var 2)) (ad_cons (ed_ix (ed_var 1) (ed_var 2)) ad_nil))))) ad_nil)))
  ssd_nil))
  ssd_nil)
  (ssd_cons (sd_if (td_val (ed_isi .str (ed_var 1) B.isinstance B.str))
  (ssd_one (sd_ret (ed_and (ed_isi .str (ed_var 0) B.isinstance B.str) (ed_one (ed_cmp vb_eq (op_eqD hr.units) (nomark _) (ed_var 0) (ed_var 1))))))
  ssd_nil)
  (ssd_cons (sd_if (WD.td (wd_or (td_cmp vb_is op_is2 (nomark _) (ed_var 1) ed_non) (wd_or1 (td_cmp vb_ne (op_neD hr.units) (nomark _) (ed_isi .bool (ed_var 0) B.isinstance B.bool) (ed_isi .bool (ed_var 1) B.isinstance B.bool)))))
  (ssd_one (sd_ret (ed_and (ed_cmp vb_is op_is2 (nomark _) (ed_var 1) ed_non) (ed_one (ed_cmp vb_is op_is2 (nomark _) (ed_var 0) ed_non)))))
  ssd_nil)
  (ssd_cons (sd_ret (ed_and (ed_isi .int (ed_var 0) B.isinstance B.int) (ed_one (ed_cmp vb_eq (op_eqD hr.units) (nomark _) (ed_var 0) (ed_var 1)))))
  ssd_nil))))
theorem ok__law_same (B : Bi mg) (F : FunD K "_law_same" "_law_same" (defArgs s__law_same) (defBody s__law_same) (defScope s__law_same) dvs kws f fd) (hc : ∀ {k : Nat} {sp : Sp}, FnOk P w K mg base CX0 k f fd ["_law_got", "_law_due"] sp → Kf P w K mg base k "_law_same" sp []) : ∀ N, FnOk P w K mg base CX0 (1 + N) f fd ["_law_got", "_law_due"] (spD K 2 (R__law_same N)) := by
  intro N
  induction N with
  | zero => exact fn_void
  | succ N ih =>
    have c__law_same := hc ih
    exact fnD F sc__law_same rfl rfl fun cdv A outer s H E hr => (ssd_cons (sd_if (td_val (ed_isi .tuple (ed_var 1) B.isinstance B.tuple))
  (ssd_cons (sd_if (WD.td (wd_or (td_not (td_val (ed_isi .tuple (ed_var 0) B.isinstance B.tuple))) (wd_or1 (td_cmp vb_ne (op_neD hr.units) (nomark _) (ed_cb vc_len call_len_seq B.len (ad_cons (ed_var 0) ad_nil)) (ed_cb vc_len call_len_seq B.len (ad_cons (ed_var 1) ad_nil))))))
  (ssd_one (sd_ret ed_bl))
  ssd_nil)
  (ssd_cons (sd_ret (ed_cb vc_all (cr_all rfl) B.all (ad_cons (ed_lc (own := [("_law_k", 2)]) rfl sc__law_same.nd (id_rng1 (ed_cb vc_len call_len_seq B.len (ad_cons (ed_var 1) ad_nil)) B.range) (by first | decide | with_unfolding_all rfl) (by decide) (fun _ _ _ _ _ => (gd_name (i := 2) sc__law_same.nd rfl (by first | exact .inl rfl | exact .inr rfl))) (fun _ _ _ _ _ => ptd_nil) (fun _ _ _ _ _ => (ed_call c__law_same hr (Nat.le_refl _) dvs0 (len__law_same N) (ad_cons (ed_ix (ed_var 0) (ed_var 2)) (ad_cons (ed_ix (ed_var 1) (ed_var 2)) ad_nil))))) ad_nil)))
  ssd_nil))
  ssd_nil)
  (ssd_cons (sd_if (td_val (ed_isi .str (ed_var 1) B.isinstance B.str))
  (ssd_one (sd_ret (ed_and (ed_isi .str (ed_var 0) B.isinstance B.str) (ed_one (ed_cmp vb_eq (op_eqD hr.units) (nomark _) (ed_var 0) (ed_var 1))))))
  ssd_nil)
  (ssd_cons (sd_if (WD.td (wd_or (td_cmp vb_is op_is2 (nomark _) (ed_var 1) ed_non) (wd_or1 (td_cmp vb_ne (op_neD hr.units) (nomark _) (ed_isi .bool (ed_var 0) B.isinstance B.bool) (ed_isi .bool (ed_var 1) B.isinstance B.bool)))))
  (ssd_one (sd_ret (ed_and (ed_cmp vb_is op_is2 (nomark _) (ed_var 1) ed_non) (ed_one (ed_cmp vb_is op_is2 (nomark _) (ed_var 0) ed_non)))))
  ssd_nil)
  (ssd_cons (sd_ret (ed_and (ed_isi .int (ed_var 0) B.isinstance B.int) (ed_one (ed_cmp vb_eq (op_eqD hr.units) (nomark _) (ed_var 0) (ed_var 1)))))
  ssd_nil))))
theorem ok__law_judged (B : Bi mg) (XI : Xi K mg xcs xys xfs xtab) (F : FunD K "_law_judged" "_law_judged" (defArgs s__law_judged) (defBody s__law_judged) (defScope s__law_judged) dvs kws f fd) (c_H_law_same : KfH P w K mg base 9 "_law_same" (spD K 2 F__law_same)) (c_Xlets_history : KfX P w K mg base 3 "lets_history" (spX K mg 1 FX_lets_history) []) (c__law_fault : Kf P w K mg base 1 "_law_fault" (spD K 1 F__law_fault) []) (c__law_same : Kf P w K mg base 9 "_law_same" (spD K 2 F__law_same) []) (c_is_history : Kf P w K mg base 3 "is_history" (spD K 1 F_is_history) []) (c_is_history_kw0_0 : KfK P w K mg base 3 "is_history" (spD K 1 F_is_history) 0 ["thing"] [0]) (c_lets_history_kw0_0 : KfK P w K mg base 3 "lets_history" (spD K 1 F_lets_history) 0 ["thing"] [0]) : FnOk P w K mg base CX0 10 f fd ["_law_x"] (spD K 1 F__law_judged) :=
  fnD F sc__law_judged rfl rfl fun cdv A outer s H E hr => (ssd_cons (sd_setF 1 sc__law_judged.nd (ed_call c__law_fault hr (by decide) dvs0 runF_len (ad_cons (ed_var 0) ad_nil)))
  (ssd_cons (sd_if (WD.td (wd_or (td_not (td_val (ed_call c__law_same hr (by decide) dvs0 (len__law_same 8) (ad_cons (ed_call c_is_history hr (by decide) dvs0 runF_len (ad_cons (ed_var 0) ad_nil)) (ad_cons (ed_cmp vb_is op_is2 (nomark _) (ed_var 1) ed_non) ad_nil))))) (wd_or1 (td_not (td_val (ed_call c__law_same hr (by decide) dvs0 (len__law_same 8) (ad_cons (ed_callK0 c_is_history_kw0_0 hr (by decide) runF_len (kd_cons (ed_var 0) kd_nil) (len_cons len_nil)) (ad_cons (ed_cmp vb_is op_is2 (nomark _) (ed_var 1) ed_non) ad_nil))))))))
  (ssd_one (sd_ret ed_bl))
  ssd_nil)
  (ssd_cons (sd_tryTF rfl rfl sc__law_judged.nd (i := 2) (XI.sub "InvalidPaper") (fun W2 pn xe tk hp =>
  (ssdx_cons (sdx_set 3 sc__law_judged.nd (edx_call c_Xlets_history hr (by decide) dvs0 (orRx_len runF_len runX_len) tk (ad_cons (ed_var 0) ad_nil)))
  (ssdx_cons (SD.x (sd_ret (ed_and (ed_cmp vb_is op_is2 (nomark _) (ed_var 1) ed_non) (ed_and (ed_call c__law_same hr (by decide) dvs0 (len__law_same 8) (ad_cons (ed_var 3) (ad_cons (ed_cb vc_len call_len_seq B.len (ad_cons (ed_var 0) ad_nil)) ad_nil))) (ed_one (ed_call c__law_same hr (by decide) dvs0 (len__law_same 8) (ad_cons (ed_callK0 c_lets_history_kw0_0 hr (by decide) runF_len (kd_cons (ed_var 0) kd_nil) (len_cons len_nil)) (ad_cons (ed_cb vc_len call_len_seq B.len (ad_cons (ed_var 0) ad_nil)) ad_nil))))))))
  ssdx_nil))) (fun k C a dd oe pn hk hz hf =>
  (ssd_cons (sd_if (td_cmp vb_is op_is2 (nomark _) (ed_var 1) ed_non)
  (ssd_one (sd_ret ed_bl))
  ssd_nil)
  (ssd_cons (sd_ret (ed_callH c_H_law_same (room_suite hr) (hot_suite hz hf) (by decide) (len__law_same 8) (ad_cons (ed_tup (ad_cons (ed_fld (XI.fld "word") hk hz.zc hf) (ad_cons (ed_fld (XI.fld "at") hk hz.zc hf) (ad_cons (ed_isT (XI.kit "PaperError") hk hz.zc hf B.isinstance) (ad_cons (ed_isT (XI.kit "BookError") hk hz.zc hf B.isinstance) ad_nil))))) (ad_cons (ed_op vb_add op_add3 (ed_var 1) (ed_tup (ad_cons ed_bl (ad_cons ed_bl ad_nil)))) ad_nil))))
  ssd_nil))))
  ssd_nil)))
theorem ok__law_refusals (B : Bi mg) (F : FunD K "_law_refusals" "_law_refusals" (defArgs s__law_refusals) (defBody s__law_refusals) (defScope s__law_refusals) dvs kws f fd) (c__law_door : Kf P w K mg base 5 "_law_door" (spD K 4 F__law_door) []) (c__law_same : Kf P w K mg base 9 "_law_same" (spD K 2 F__law_same) []) : FnOk P w K mg base CX0 10 f fd ["_law_tree_here", "_law_x", "_law_v"] (spD K 3 F__law_refusals) :=
  fnD F sc__law_refusals rfl rfl fun cdv A outer s H E hr => (ssd_cons (sd_setF 3 sc__law_refusals.nd (ed_op vb_add op_add3 (ed_op vb_repT op_repB (ed_tup (ad_cons ed_str ad_nil)) ed_int) (ed_tup (ad_cons ed_str (ad_cons ed_str (ad_cons ed_str (ad_cons ed_str (ad_cons ed_str (ad_cons ed_str ad_nil)))))))))
  (ssd_cons (sd_for rfl PassesOwn.never (id_rng1 ed_int B.range) (gd_name (i := 4) sc__law_refusals.nd rfl (by first | exact .inl rfl | exact .inr rfl))
  (ssd_cons (sd_if (td_not (td_val (ed_call c__law_same hr (by decide) dvs0 (len__law_same 8) (ad_cons (ed_call c__law_door hr (by decide) dvs0 runF_len (ad_cons (ed_var 4) (ad_cons (ed_var 0) (ad_cons (ed_var 1) (ad_cons (ed_var 2) ad_nil))))) (ad_cons (ed_tup (ad_cons (ed_ix (ed_var 3) (ed_var 4)) (ad_cons (ed_neg ed_int) (ad_cons ed_bl (ad_cons ed_bl ad_nil))))) ad_nil)))))
  (ssd_one (sd_ret ed_bl))
  ssd_nil)
  (ssd_cons (sd_if (WD.td (wd_and (td_cmp vq_gt (oq_gt hr.units) (nomark _) (ed_var 4) ed_int) (wd_and1 (td_not (td_val (ed_call c__law_same hr (by decide) dvs0 (len__law_same 8) (ad_cons (ed_call c__law_door hr (by decide) dvs0 runF_len (ad_cons (ed_var 4) (ad_cons (ed_var 0) (ad_cons (ed_var 2) (ad_cons (ed_var 2) ad_nil))))) (ad_cons (ed_tup (ad_cons ed_str ad_nil)) ad_nil))))))))
  (ssd_one (sd_ret ed_bl))
  ssd_nil)
  ssd_nil)))
  (ssd_cons (sd_if (td_not (td_val (ed_call c__law_same hr (by decide) dvs0 (len__law_same 8) (ad_cons (ed_call c__law_door hr (by decide) dvs0 runF_len (ad_cons ed_int (ad_cons (ed_var 0) (ad_cons ed_int (ad_cons (ed_var 2) ad_nil))))) (ad_cons (ed_tup (ad_cons ed_str (ad_cons (ed_neg ed_int) (ad_cons ed_bl (ad_cons ed_bl ad_nil))))) ad_nil)))))
  (ssd_one (sd_ret ed_bl))
  ssd_nil)
  (ssd_cons (sd_ret (ed_or (ed_cmp vb_eq (op_eqD hr.units) (nomark _) (ed_var 2) ed_int) (ed_one (ed_call c__law_same hr (by decide) dvs0 (len__law_same 8) (ad_cons (ed_call c__law_door hr (by decide) dvs0 runF_len (ad_cons ed_int (ad_cons (ed_var 0) (ad_cons (ed_var 2) (ad_cons (ed_var 2) ad_nil))))) (ad_cons (ed_tup (ad_cons ed_str ad_nil)) ad_nil))))))
  ssd_nil))))
theorem ok__law_version (B : Bi mg) (F : FunD K "_law_version" "_law_version" (defArgs s__law_version) (defBody s__law_version) (defScope s__law_version) dvs kws f fd) (c__law_same : Kf P w K mg base 9 "_law_same" (spD K 2 F__law_same) []) (c_branch_of : Kf P w K mg base 4 "branch_of" (spD K 2 F_branch_of) []) (c_branch_of_kw0_1_0 : KfK P w K mg base 4 "branch_of" (spD K 2 F_branch_of) 0 ["version", "history"] [1, 0]) (c_children_of : Kf P w K mg base 4 "children_of" (spD K 2 F_children_of) []) (c_children_of_kw0_1_0 : KfK P w K mg base 4 "children_of" (spD K 2 F_children_of) 0 ["version", "history"] [1, 0]) (c_depth_of : Kf P w K mg base 4 "depth_of" (spD K 2 F_depth_of) []) (c_depth_of_kw0_1_0 : KfK P w K mg base 4 "depth_of" (spD K 2 F_depth_of) 0 ["version", "history"] [1, 0]) (c_elders_of : Kf P w K mg base 4 "elders_of" (spD K 2 F_elders_of) []) (c_elders_of_kw0_1_0 : KfK P w K mg base 4 "elders_of" (spD K 2 F_elders_of) 0 ["version", "history"] [1, 0]) (c_parent_of : Kf P w K mg base 4 "parent_of" (spD K 2 F_parent_of) []) (c_parent_of_kw0_1_0 : KfK P w K mg base 4 "parent_of" (spD K 2 F_parent_of) 0 ["version", "history"] [1, 0]) (c_path_of : Kf P w K mg base 4 "path_of" (spD K 2 F_path_of) []) (c_path_of_kw0_1_0 : KfK P w K mg base 4 "path_of" (spD K 2 F_path_of) 0 ["version", "history"] [1, 0]) : FnOk P w K mg base CX0 10 f fd ["_law_tree_here", "_law_ups_here", "_law_v", "_law_named"] (spD K 4 F__law_version) :=
  fnD F sc__law_version rfl rfl fun cdv A outer s H E hr => (ssd_cons (sd_setF 4 sc__law_version.nd (ed_ct vc_tuple call_tuple_of B.tuple (ad_cons (ed_lc (own := [("_law_z", 8)]) rfl sc__law_version.nd (id_rng1 (ed_cb vc_len call_len_seq B.len (ad_cons (ed_var 1) ad_nil)) B.range) (by first | decide | with_unfolding_all rfl) (by decide) (fun _ _ _ _ _ => (gd_name (i := 8) sc__law_version.nd rfl (by first | exact .inl rfl | exact .inr rfl))) (fun _ _ _ _ _ => (ptd_one (WD.td (wd_or (td_cmp vb_eq (op_eqD hr.units) (nomark _) (ed_var 8) (ed_var 2)) (wd_or1 (td_cmp vb_inB op_in_seq (by with_unfolding_all rfl) (ed_var 2) (ed_ix (ed_var 1) (ed_var 8)))))))) (fun _ _ _ _ _ => (ed_var 8))) ad_nil)))
  (ssd_cons (sd_setF 5 sc__law_version.nd (ed_ct vc_tuple call_tuple_of B.tuple (ad_cons (ed_lc (own := [("_law_z", 8)]) rfl sc__law_version.nd (id_rng2 ed_int (ed_cb vc_len call_len_seq B.len (ad_cons (ed_var 1) ad_nil)) B.range) (by first | decide | with_unfolding_all rfl) (by decide) (fun _ _ _ _ _ => (gd_name (i := 8) sc__law_version.nd rfl (by first | exact .inl rfl | exact .inr rfl))) (fun _ _ _ _ _ => (ptd_one (td_cmp vb_eq (op_eqD hr.units) (nomark _) (ed_ix (ed_var 0) (ed_op vb_sub op_sub (ed_var 8) ed_int)) (ed_var 2)))) (fun _ _ _ _ _ => (ed_var 8))) ad_nil)))
  (ssd_cons (sd_setF 6 sc__law_version.nd (ed_ct vc_tuple call_tuple_of B.tuple (ad_cons (ed_cb vc_sortedB (cr_sortedB hr.units) B.sorted (ad_cons (ed_lc (own := [("_law_z", 8)]) rfl sc__law_version.nd (id_seq (ed_op vb_add op_add3 (ed_lst (ad_cons (ed_var 2) ad_nil)) (ed_ix (ed_var 1) (ed_var 2)))) (by first | decide | with_unfolding_all rfl) (by decide) (fun _ _ _ _ _ => (gd_name (i := 8) sc__law_version.nd rfl (by first | exact .inl rfl | exact .inr rfl))) (fun _ _ _ _ _ => (ptd_one (td_cmp vq_gt (oq_gt hr.units) (nomark _) (ed_var 8) ed_int))) (fun _ _ _ _ _ => (ed_var 8))) ad_nil)) ad_nil)))
  (ssd_cons (sd_if (td_val (ed_var 3))
  (ssd_one (sd_setF 7 sc__law_version.nd (ed_tup (ad_cons (ed_callK0 c_elders_of_kw0_1_0 hr (by decide) runF_len (kd_cons (ed_var 2) (kd_cons (ed_var 0) kd_nil)) (len_cons (len_cons len_nil))) (ad_cons (ed_callK0 c_path_of_kw0_1_0 hr (by decide) runF_len (kd_cons (ed_var 2) (kd_cons (ed_var 0) kd_nil)) (len_cons (len_cons len_nil))) (ad_cons (ed_callK0 c_depth_of_kw0_1_0 hr (by decide) runF_len (kd_cons (ed_var 2) (kd_cons (ed_var 0) kd_nil)) (len_cons (len_cons len_nil))) (ad_cons (ed_callK0 c_children_of_kw0_1_0 hr (by decide) runF_len (kd_cons (ed_var 2) (kd_cons (ed_var 0) kd_nil)) (len_cons (len_cons len_nil))) (ad_cons (ed_callK0 c_branch_of_kw0_1_0 hr (by decide) runF_len (kd_cons (ed_var 2) (kd_cons (ed_var 0) kd_nil)) (len_cons (len_cons len_nil))) ad_nil))))))))
  (ssd_one (sd_setF 7 sc__law_version.nd (ed_tup (ad_cons (ed_call c_elders_of hr (by decide) dvs0 runF_len (ad_cons (ed_var 0) (ad_cons (ed_var 2) ad_nil))) (ad_cons (ed_call c_path_of hr (by decide) dvs0 runF_len (ad_cons (ed_var 0) (ad_cons (ed_var 2) ad_nil))) (ad_cons (ed_call c_depth_of hr (by decide) dvs0 runF_len (ad_cons (ed_var 0) (ad_cons (ed_var 2) ad_nil))) (ad_cons (ed_call c_children_of hr (by decide) dvs0 runF_len (ad_cons (ed_var 0) (ad_cons (ed_var 2) ad_nil))) (ad_cons (ed_call c_branch_of hr (by decide) dvs0 runF_len (ad_cons (ed_var 0) (ad_cons (ed_var 2) ad_nil))) ad_nil)))))))))
  (ssd_cons (sd_if (td_not (td_val (ed_call c__law_same hr (by decide) dvs0 (len__law_same 8) (ad_cons (ed_var 7) (ad_cons (ed_tup (ad_cons (ed_ct vc_tuple call_tuple_of B.tuple (ad_cons (ed_ix (ed_var 1) (ed_var 2)) ad_nil)) (ad_cons (ed_var 6) (ad_cons (ed_cb vc_len call_len_seq B.len (ad_cons (ed_ix (ed_var 1) (ed_var 2)) ad_nil)) (ad_cons (ed_var 5) (ad_cons (ed_var 4) ad_nil)))))) ad_nil)))))
  (ssd_one (sd_ret ed_bl))
  ssd_nil)
  (ssd_cons (sd_if (WD.td (wd_and (td_cmp vq_gt (oq_gt hr.units) (nomark _) (ed_var 2) ed_int) (wd_and1 (td_val (ed_var 3)))))
  (ssd_one (sd_ret (ed_call c__law_same hr (by decide) dvs0 (len__law_same 8) (ad_cons (ed_callK0 c_parent_of_kw0_1_0 hr (by decide) runF_len (kd_cons (ed_var 2) (kd_cons (ed_var 0) kd_nil)) (len_cons (len_cons len_nil))) (ad_cons (ed_ix (ed_ix (ed_var 1) (ed_var 2)) ed_int) ad_nil)))))
  ssd_nil)
  (ssd_cons (sd_ret (ed_or (ed_cmp vb_eq (op_eqD hr.units) (nomark _) (ed_var 2) ed_int) (ed_one (ed_call c__law_same hr (by decide) dvs0 (len__law_same 8) (ad_cons (ed_call c_parent_of hr (by decide) dvs0 runF_len (ad_cons (ed_var 0) (ad_cons (ed_var 2) ad_nil))) (ad_cons (ed_ix (ed_ix (ed_var 1) (ed_var 2)) ed_int) ad_nil))))))
  ssd_nil)))))))
theorem ok__law_pair (B : Bi mg) (F : FunD K "_law_pair" "_law_pair" (defArgs s__law_pair) (defBody s__law_pair) (defScope s__law_pair) dvs kws f fd) (c__law_same : Kf P w K mg base 9 "_law_same" (spD K 2 F__law_same) []) (c_is_elder : Kf P w K mg base 4 "is_elder" (spD K 3 F_is_elder) []) (c_is_elder_kw0_2_1_0 : KfK P w K mg base 4 "is_elder" (spD K 3 F_is_elder) 0 ["other", "one", "history"] [2, 1, 0]) (c_meet_of : Kf P w K mg base 4 "meet_of" (spD K 3 F_meet_of) []) (c_meet_of_kw0_2_1_0 : KfK P w K mg base 4 "meet_of" (spD K 3 F_meet_of) 0 ["other", "one", "history"] [2, 1, 0]) : FnOk P w K mg base CX0 10 f fd ["_law_tree_here", "_law_ups_here", "_law_v", "_law_w", "_law_named"] (spD K 5 F__law_pair) :=
  fnD F sc__law_pair rfl rfl fun cdv A outer s H E hr => (ssd_cons (sd_setF 5 sc__law_pair.nd (ed_cb vc_maxB (cr_maxB rfl hr.units) B.max (ad_cons (ed_lc (own := [("_law_z", 7)]) rfl sc__law_pair.nd (id_seq (ed_op vb_add op_add3 (ed_lst (ad_cons (ed_var 2) ad_nil)) (ed_ix (ed_var 1) (ed_var 2)))) (by first | decide | with_unfolding_all rfl) (by decide) (fun _ _ _ _ _ => (gd_name (i := 7) sc__law_pair.nd rfl (by first | exact .inl rfl | exact .inr rfl))) (fun _ _ _ _ _ => (ptd_one (WD.td (wd_or (td_cmp vb_eq (op_eqD hr.units) (nomark _) (ed_var 7) (ed_var 3)) (wd_or1 (td_cmp vb_inB op_in_seq (by with_unfolding_all rfl) (ed_var 7) (ed_ix (ed_var 1) (ed_var 3)))))))) (fun _ _ _ _ _ => (ed_var 7))) ad_nil)))
  (ssd_cons (sd_if (td_val (ed_var 4))
  (ssd_one (sd_setF 6 sc__law_pair.nd (ed_tup (ad_cons (ed_callK0 c_is_elder_kw0_2_1_0 hr (by decide) runF_len (kd_cons (ed_var 3) (kd_cons (ed_var 2) (kd_cons (ed_var 0) kd_nil))) (len_cons (len_cons (len_cons len_nil)))) (ad_cons (ed_callK0 c_meet_of_kw0_2_1_0 hr (by decide) runF_len (kd_cons (ed_var 3) (kd_cons (ed_var 2) (kd_cons (ed_var 0) kd_nil))) (len_cons (len_cons (len_cons len_nil)))) ad_nil)))))
  (ssd_one (sd_setF 6 sc__law_pair.nd (ed_tup (ad_cons (ed_call c_is_elder hr (by decide) dvs0 runF_len (ad_cons (ed_var 0) (ad_cons (ed_var 2) (ad_cons (ed_var 3) ad_nil)))) (ad_cons (ed_call c_meet_of hr (by decide) dvs0 runF_len (ad_cons (ed_var 0) (ad_cons (ed_var 2) (ad_cons (ed_var 3) ad_nil)))) ad_nil))))))
  (ssd_cons (sd_ret (ed_call c__law_same hr (by decide) dvs0 (len__law_same 8) (ad_cons (ed_var 6) (ad_cons (ed_tup (ad_cons (ed_cmp vb_inB op_in_seq (by with_unfolding_all rfl) (ed_var 2) (ed_ix (ed_var 1) (ed_var 3))) (ad_cons (ed_var 5) ad_nil))) ad_nil))))
  ssd_nil)))
theorem ok__law_whole (B : Bi mg) (F : FunD K "_law_whole" "_law_whole" (defArgs s__law_whole) (defBody s__law_whole) (defScope s__law_whole) dvs kws f fd) (c__law_same : Kf P w K mg base 9 "_law_same" (spD K 2 F__law_same) []) (c_depth_in : Kf P w K mg base 1 "depth_in" (spD K 1 F_depth_in) []) (c_depth_in_kw0_0 : KfK P w K mg base 1 "depth_in" (spD K 1 F_depth_in) 0 ["history"] [0]) (c_is_line : Kf P w K mg base 1 "is_line" (spD K 1 F_is_line) []) (c_is_line_kw0_0 : KfK P w K mg base 1 "is_line" (spD K 1 F_is_line) 0 ["history"] [0]) (c_leaves_of : Kf P w K mg base 1 "leaves_of" (spD K 1 F_leaves_of) []) (c_leaves_of_kw0_0 : KfK P w K mg base 1 "leaves_of" (spD K 1 F_leaves_of) 0 ["history"] [0]) (c_many_of : Kf P w K mg base 1 "many_of" (spD K 1 F_many_of) []) (c_many_of_kw0_0 : KfK P w K mg base 1 "many_of" (spD K 1 F_many_of) 0 ["history"] [0]) : FnOk P w K mg base CX0 10 f fd ["_law_tree_here", "_law_ups_here", "_law_named"] (spD K 3 F__law_whole) :=
  fnD F sc__law_whole rfl rfl fun cdv A outer s H E hr => (ssd_cons (by first | exact sd_setLcF 3 (own := [("_law_p", 7)]) rfl sc__law_whole.nd (id_seq (ed_var 0)) (by first | decide | with_unfolding_all rfl) (by decide) (fun _ _ _ _ _ => (gd_name (i := 7) sc__law_whole.nd rfl (by first | exact .inl rfl | exact .inr rfl))) (fun _ _ _ _ _ => ptd_nil) (fun _ _ _ _ _ => (ed_var 7)) | exact sd_setF 3 sc__law_whole.nd (ed_lc (own := [("_law_p", 7)]) rfl sc__law_whole.nd (id_seq (ed_var 0)) (by first | decide | with_unfolding_all rfl) (by decide) (fun _ _ _ _ _ => (gd_name (i := 7) sc__law_whole.nd rfl (by first | exact .inl rfl | exact .inr rfl))) (fun _ _ _ _ _ => ptd_nil) (fun _ _ _ _ _ => (ed_var 7))))
  (ssd_cons (sd_setF 4 sc__law_whole.nd (ed_ct vc_tuple call_tuple_of B.tuple (ad_cons (ed_lc (own := [("_law_z", 8)]) rfl sc__law_whole.nd (id_rng1 (ed_cb vc_len call_len_seq B.len (ad_cons (ed_var 1) ad_nil)) B.range) (by first | decide | with_unfolding_all rfl) (by decide) (fun _ _ _ _ _ => (gd_name (i := 8) sc__law_whole.nd rfl (by first | exact .inl rfl | exact .inr rfl))) (fun _ _ _ _ _ => (ptd_one (td_cmp vb_inB op_notIn_seq (by with_unfolding_all rfl) (ed_var 8) (ed_var 3)))) (fun _ _ _ _ _ => (ed_var 8))) ad_nil)))
  (ssd_cons (sd_setF 5 sc__law_whole.nd (ed_cmp vb_eq (op_eqD hr.units) (nomark _) (ed_var 0) (ed_trg (rgd1 (ed_cb vc_len call_len_seq B.len (ad_cons (ed_var 0) ad_nil)) B.range) rfl B.tuple)))
  (ssd_cons (sd_if (td_val (ed_var 2))
  (ssd_one (sd_setF 6 sc__law_whole.nd (ed_tup (ad_cons (ed_callK0 c_many_of_kw0_0 hr (by decide) runF_len (kd_cons (ed_var 0) kd_nil) (len_cons len_nil)) (ad_cons (ed_callK0 c_depth_in_kw0_0 hr (by decide) runF_len (kd_cons (ed_var 0) kd_nil) (len_cons len_nil)) (ad_cons (ed_callK0 c_leaves_of_kw0_0 hr (by decide) runF_len (kd_cons (ed_var 0) kd_nil) (len_cons len_nil)) (ad_cons (ed_callK0 c_is_line_kw0_0 hr (by decide) runF_len (kd_cons (ed_var 0) kd_nil) (len_cons len_nil)) ad_nil)))))))
  (ssd_one (sd_setF 6 sc__law_whole.nd (ed_tup (ad_cons (ed_call c_many_of hr (by decide) dvs0 runF_len (ad_cons (ed_var 0) ad_nil)) (ad_cons (ed_call c_depth_in hr (by decide) dvs0 runF_len (ad_cons (ed_var 0) ad_nil)) (ad_cons (ed_call c_leaves_of hr (by decide) dvs0 runF_len (ad_cons (ed_var 0) ad_nil)) (ad_cons (ed_call c_is_line hr (by decide) dvs0 runF_len (ad_cons (ed_var 0) ad_nil)) ad_nil))))))))
  (ssd_cons (sd_ret (ed_call c__law_same hr (by decide) dvs0 (len__law_same 8) (ad_cons (ed_var 6) (ad_cons (ed_tup (ad_cons (ed_cb vc_len call_len_seq B.len (ad_cons (ed_var 0) ad_nil)) (ad_cons (ed_cb vc_maxB (cr_maxB rfl hr.units) B.max (ad_cons (ed_lc (own := [("_law_row", 9)]) rfl sc__law_whole.nd (id_seq (ed_var 1)) (by first | decide | with_unfolding_all rfl) (by decide) (fun _ _ _ _ _ => (gd_name (i := 9) sc__law_whole.nd rfl (by first | exact .inl rfl | exact .inr rfl))) (fun _ _ _ _ _ => ptd_nil) (fun _ _ _ _ _ => (ed_cb vc_len call_len_seq B.len (ad_cons (ed_var 9) ad_nil)))) ad_nil)) (ad_cons (ed_var 4) (ad_cons (ed_var 5) ad_nil))))) ad_nil))))
  ssd_nil)))))
theorem ok_law (B : Bi mg) (F : FunD K "law" "law" (defArgs s_law) (defBody s_law) (defScope s_law) dvs kws f fd) (c__law_draws : Kf P w K mg base 2 "_law_draws" (spD K 2 F__law_draws) []) (c__law_judged : Kf P w K mg base 10 "_law_judged" (spD K 1 F__law_judged) []) (c__law_pair : Kf P w K mg base 10 "_law_pair" (spD K 5 F__law_pair) []) (c__law_refusals : Kf P w K mg base 10 "_law_refusals" (spD K 3 F__law_refusals) []) (c__law_thing : Kf P w K mg base 1 "_law_thing" (spD K 2 F__law_thing) []) (c__law_tree : Kf P w K mg base 1 "_law_tree" (spD K 3 F__law_tree) []) (c__law_ups : Kf P w K mg base 1 "_law_ups" (spD K 1 F__law_ups) []) (c__law_version : Kf P w K mg base 10 "_law_version" (spD K 4 F__law_version) []) (c__law_whole : Kf P w K mg base 10 "_law_whole" (spD K 3 F__law_whole) []) : FnOk P w K mg base CX0 11 f fd ["_law_script"] (spD K 1 F_law) :=
  fnD F sc_law rfl rfl fun cdv A outer s H E hr => (ssd_cons (sd_setF 1 sc_law.nd (ed_call c__law_draws hr (by decide) dvs0 runF_len (ad_cons (ed_var 0) (ad_cons ed_int ad_nil))))
  (ssd_cons (sd_setF 2 sc_law.nd (ed_op vb_mod op_mod (ed_ct vc_int call_int1 B.int (ad_cons (ed_ix (ed_var 1) ed_int) ad_nil)) ed_int))
  (ssd_cons (sd_if (td_cmp vq_gt (oq_gt hr.units) (nomark _) (ed_op vb_mod op_mod (ed_ct vc_int call_int1 B.int (ad_cons (ed_ix (ed_var 1) ed_int) ad_nil)) ed_int) ed_int)
  (ssd_one (sd_setF 2 sc_law.nd (ed_op vb_add op_add3 ed_int (ed_op vb_mul op_mul2 ed_int (ed_op vb_sub op_sub (ed_op vb_mod op_mod (ed_ct vc_int call_int1 B.int (ad_cons (ed_ix (ed_var 1) ed_int) ad_nil)) ed_int) ed_int)))))
  ssd_nil)
  (ssd_cons (sd_setF 3 sc_law.nd (ed_call c__law_tree hr (by decide) dvs0 runF_len (ad_cons (ed_sl (ed_var 1) (od_at ed_int) (od_at ed_int)) (ad_cons (ed_var 2) (ad_cons (ed_op vb_mod op_mod (ed_ct vc_int call_int1 B.int (ad_cons (ed_ix (ed_var 1) ed_int) ad_nil)) ed_int) ad_nil)))))
  (ssd_cons (sd_setF 4 sc_law.nd (ed_call c__law_ups hr (by decide) dvs0 runF_len (ad_cons (ed_var 3) ad_nil)))
  (ssd_cons (sd_if (WD.td (wd_or (td_not (td_val (ed_call c__law_judged hr (by decide) dvs0 runF_len (ad_cons (ed_var 3) ad_nil)))) (wd_or1 (td_not (td_val (ed_call c__law_judged hr (by decide) dvs0 runF_len (ad_cons (ed_call c__law_thing hr (by decide) dvs0 runF_len (ad_cons (ed_sl (ed_var 1) (od_at ed_int) (od_at ed_int)) (ad_cons (ed_var 3) ad_nil))) ad_nil)))))))
  (ssd_one (sd_ret ed_bl))
  ssd_nil)
  (ssd_cons (sd_if (td_not (td_val (ed_call c__law_whole hr (by decide) dvs0 runF_len (ad_cons (ed_var 3) (ad_cons (ed_var 4) (ad_cons ed_bl ad_nil))))))
  (ssd_one (sd_ret ed_bl))
  ssd_nil)
  (ssd_cons (sd_setF 5 sc_law.nd (ed_lrg (rgd1 (ed_op vb_add op_add3 (ed_var 2) ed_int) B.range) rfl B.list))
  (ssd_cons (by first | exact sd_setLcF 6 (own := [("_law_k", 10)]) rfl sc_law.nd (id_rng1 (ed_op vb_mul op_mul2 (ed_op vb_add op_add3 (ed_var 2) ed_int) (ed_op vb_add op_add3 (ed_var 2) ed_int)) B.range) (by first | decide | with_unfolding_all rfl) (by decide) (fun _ _ _ _ _ => (gd_name (i := 10) sc_law.nd rfl (by first | exact .inl rfl | exact .inr rfl))) (fun _ _ _ _ _ => ptd_nil) (fun _ _ _ _ _ => (ed_tup (ad_cons (ed_op vb_div op_fdivW (ed_var 10) (ed_op vb_add op_add3 (ed_var 2) ed_int)) (ad_cons (ed_op vb_mod op_mod (ed_ct vc_int call_int1 B.int (ad_cons (ed_var 10) ad_nil)) (ed_op vb_add op_add3 (ed_var 2) ed_int)) ad_nil)))) | exact sd_setF 6 sc_law.nd (ed_lc (own := [("_law_k", 10)]) rfl sc_law.nd (id_rng1 (ed_op vb_mul op_mul2 (ed_op vb_add op_add3 (ed_var 2) ed_int) (ed_op vb_add op_add3 (ed_var 2) ed_int)) B.range) (by first | decide | with_unfolding_all rfl) (by decide) (fun _ _ _ _ _ => (gd_name (i := 10) sc_law.nd rfl (by first | exact .inl rfl | exact .inr rfl))) (fun _ _ _ _ _ => ptd_nil) (fun _ _ _ _ _ => (ed_tup (ad_cons (ed_op vb_div op_fdivW (ed_var 10) (ed_op vb_add op_add3 (ed_var 2) ed_int)) (ad_cons (ed_op vb_mod op_mod (ed_ct vc_int call_int1 B.int (ad_cons (ed_var 10) ad_nil)) (ed_op vb_add op_add3 (ed_var 2) ed_int)) ad_nil))))))
  (ssd_cons (sd_if (td_cmp vq_gt (oq_gt hr.units) (nomark _) (ed_var 2) ed_int)
  (ssd_cons (by first | exact sd_setLcF 5 (own := [("_law_k", 10)]) rfl sc_law.nd (id_rng1 ed_int B.range) (by first | decide | with_unfolding_all rfl) (by decide) (fun _ _ _ _ _ => (gd_name (i := 10) sc_law.nd rfl (by first | exact .inl rfl | exact .inr rfl))) (fun _ _ _ _ _ => ptd_nil) (fun _ _ _ _ _ => (ed_op vb_mod op_mod (ed_ct vc_int call_int1 B.int (ad_cons (ed_ix (ed_var 1) (ed_op vb_add op_add3 ed_int (ed_var 10))) ad_nil)) (ed_op vb_add op_add3 (ed_var 2) ed_int))) | exact sd_setF 5 sc_law.nd (ed_lc (own := [("_law_k", 10)]) rfl sc_law.nd (id_rng1 ed_int B.range) (by first | decide | with_unfolding_all rfl) (by decide) (fun _ _ _ _ _ => (gd_name (i := 10) sc_law.nd rfl (by first | exact .inl rfl | exact .inr rfl))) (fun _ _ _ _ _ => ptd_nil) (fun _ _ _ _ _ => (ed_op vb_mod op_mod (ed_ct vc_int call_int1 B.int (ad_cons (ed_ix (ed_var 1) (ed_op vb_add op_add3 ed_int (ed_var 10))) ad_nil)) (ed_op vb_add op_add3 (ed_var 2) ed_int)))))
  (ssd_cons (by first | exact sd_setLcF 6 (own := [("_law_k", 10)]) rfl sc_law.nd (id_rng1 ed_int B.range) (by first | decide | with_unfolding_all rfl) (by decide) (fun _ _ _ _ _ => (gd_name (i := 10) sc_law.nd rfl (by first | exact .inl rfl | exact .inr rfl))) (fun _ _ _ _ _ => ptd_nil) (fun _ _ _ _ _ => (ed_tup (ad_cons (ed_op vb_mod op_mod (ed_ct vc_int call_int1 B.int (ad_cons (ed_ix (ed_var 1) (ed_op vb_add op_add3 ed_int (ed_var 10))) ad_nil)) (ed_op vb_add op_add3 (ed_var 2) ed_int)) (ad_cons (ed_op vb_mod op_mod (ed_ct vc_int call_int1 B.int (ad_cons (ed_ix (ed_var 1) (ed_op vb_add op_add3 ed_int (ed_var 10))) ad_nil)) (ed_op vb_add op_add3 (ed_var 2) ed_int)) ad_nil)))) | exact sd_setF 6 sc_law.nd (ed_lc (own := [("_law_k", 10)]) rfl sc_law.nd (id_rng1 ed_int B.range) (by first | decide | with_unfolding_all rfl) (by decide) (fun _ _ _ _ _ => (gd_name (i := 10) sc_law.nd rfl (by first | exact .inl rfl | exact .inr rfl))) (fun _ _ _ _ _ => ptd_nil) (fun _ _ _ _ _ => (ed_tup (ad_cons (ed_op vb_mod op_mod (ed_ct vc_int call_int1 B.int (ad_cons (ed_ix (ed_var 1) (ed_op vb_add op_add3 ed_int (ed_var 10))) ad_nil)) (ed_op vb_add op_add3 (ed_var 2) ed_int)) (ad_cons (ed_op vb_mod op_mod (ed_ct vc_int call_int1 B.int (ad_cons (ed_ix (ed_var 1) (ed_op vb_add op_add3 ed_int (ed_var 10))) ad_nil)) (ed_op vb_add op_add3 (ed_var 2) ed_int)) ad_nil))))))
  ssd_nil))
  ssd_nil)
  (ssd_cons (sd_for rfl PassesOwn.never (id_seq (ed_var 5)) (gd_name (i := 7) sc_law.nd rfl (by first | exact .inl rfl | exact .inr rfl))
  (ssd_one (sd_if (td_not (td_val (ed_call c__law_version hr (by decide) dvs0 runF_len (ad_cons (ed_var 3) (ad_cons (ed_var 4) (ad_cons (ed_var 7) (ad_cons ed_bl ad_nil)))))))
  (ssd_one (sd_ret ed_bl))
  ssd_nil)))
  (ssd_cons (sd_for rfl PassesOwn.never (id_seq (ed_var 6)) (gd_tup rfl (gsd_cons (i := 7) sc_law.nd rfl (by first | exact .inl rfl | exact .inr rfl) (gsd_cons (i := 8) sc_law.nd rfl (by first | exact .inl rfl | exact .inr rfl) gsd_nil)))
  (ssd_one (sd_if (td_not (td_val (ed_call c__law_pair hr (by decide) dvs0 runF_len (ad_cons (ed_var 3) (ad_cons (ed_var 4) (ad_cons (ed_var 7) (ad_cons (ed_var 8) (ad_cons ed_bl ad_nil))))))))
  (ssd_one (sd_ret ed_bl))
  ssd_nil)))
  (ssd_cons (sd_setF 7 sc_law.nd (ed_op vb_mod op_mod (ed_ct vc_int call_int1 B.int (ad_cons (ed_ix (ed_var 1) ed_int) ad_nil)) (ed_op vb_add op_add3 (ed_var 2) ed_int)))
  (ssd_cons (sd_setF 8 sc_law.nd (ed_op vb_mod op_mod (ed_ct vc_int call_int1 B.int (ad_cons (ed_ix (ed_var 1) ed_int) ad_nil)) (ed_op vb_add op_add3 (ed_var 2) ed_int)))
  (ssd_cons (sd_if (WD.td (wd_or (td_not (td_val (ed_call c__law_version hr (by decide) dvs0 runF_len (ad_cons (ed_var 3) (ad_cons (ed_var 4) (ad_cons (ed_var 8) (ad_cons ed_bl ad_nil))))))) (wd_or1 (td_not (td_val (ed_call c__law_pair hr (by decide) dvs0 runF_len (ad_cons (ed_var 3) (ad_cons (ed_var 4) (ad_cons (ed_var 7) (ad_cons (ed_var 8) (ad_cons ed_bl ad_nil)))))))))))
  (ssd_one (sd_ret ed_bl))
  ssd_nil)
  (ssd_cons (sd_setF 9 sc_law.nd (ed_ix (ed_tup (ad_cons (ed_op vb_add op_add3 (ed_var 2) ed_int) (ad_cons (ed_neg ed_int) (ad_cons ed_bl (ad_cons ed_bl (ad_cons ed_non (ad_cons ed_str (ad_cons (ed_tup (ad_cons (ed_var 7) ad_nil)) (ad_cons (ed_lst (ad_cons (ed_var 7) ad_nil)) (ad_cons (ed_op vb_add op_add3 (ed_var 2) ed_int) (ad_cons (ed_op vb_pow op_pow ed_int ed_int) (ad_cons (ed_op vb_sub op_sub (ed_neg (ed_var 2)) ed_int) (ad_cons (ed_tup ad_nil) ad_nil))))))))))))) (ed_op vb_mod op_mod (ed_ct vc_int call_int1 B.int (ad_cons (ed_ix (ed_var 1) ed_int) ad_nil)) ed_int)))
  (ssd_cons (sd_ret (ed_and (ed_call c__law_refusals hr (by decide) dvs0 runF_len (ad_cons (ed_var 3) (ad_cons (ed_var 9) (ad_cons (ed_var 7) ad_nil)))) (ed_one (ed_call c__law_whole hr (by decide) dvs0 runF_len (ad_cons (ed_var 3) (ad_cons (ed_var 4) (ad_cons ed_bl ad_nil)))))))
  ssd_nil)))))))))))))))))
end
end K02
namespace K02
open PySem PySem.Spec PyProof.Rows L2 DL
noncomputable section
def f_is_integer (thing : Int) : Option Bool :=
  some (true && (!false))
def f_many_of (history : (List Int)) : Option Int :=
  some (history.length : Int)
def f_upward_L1 (history : (List Int)) (version_ : Int) (found_ : (List Int)) : Option (Int × (List Int)) :=
  (atI history (version_ - (1 : Int))).bind fun version3 => (appO found_ version3).bind fun found4 => some (version3, found4)
def f_upward_L1c (history : (List Int)) (version_ : Int) (found_ : (List Int)) : Option Bool :=
  some (decide ((0 : Int) < version_))
def f_upward (history : (List Int)) (version : Int) : Option (List Int) :=
  (some []).bind fun found1 => (whS (fun (s_ : Int × (List Int)) => f_upward_L1c history s_.1 s_.2) (fun (s_ : Int × (List Int)) => f_upward_L1 history s_.1 s_.2) (version.toNat + 1) (version, found1)).bind fun s8 => some s8.2
def f_depth_in_L1 (history : (List Int)) (x_1 : Int) (depths_ : (List Int)) : Option ((List Int)) :=
  (atI depths_ x_1).bind fun t3 => (appO depths_ (t3 + (1 : Int))).bind fun depths4 => some depths4
def f_depth_in (history : (List Int)) : Option Int :=
  (some [(0 : Int)]).bind fun depths1 => (forS (fun x_1 (depths_ : (List Int)) => f_depth_in_L1 history x_1 depths_) history depths1).bind fun depths9 => (maxO1 depths9).bind fun t11 => some t11
def f_leaves_of (history : (List Int)) : Option (List Int) :=
  (rng1O ((history.length : Int) + (1 : Int))).bind fun is1 => (lcC (fun x2 => some (!decide (x2 ∈ history))) (fun x2 => some x2) is1).bind fun t3 => some t3
def f_is_line (history : (List Int)) : Option Bool :=
  (rgLO (0 : Int) (history.length : Int)).bind fun t1 => some (decide (history = t1))
def f_w_mixed (state : Int) : Option Int :=
  (mulO state (((state / (7 : Int)) % (65497 : Int)) + (17 : Int))).bind fun t1 => (some (t1 % (2147483629 : Int))).bind fun twice2 => (mulO twice2 (((twice2 / (5 : Int)) % (32717 : Int)) + (5 : Int))).bind fun t3 => some (((t3 % (2147483587 : Int)) / (23 : Int)) % (9949 : Int))
def f_w_tree_L1 (b_ : (List Int)) (size : Int) (shape : Int) (x_1 : Int) (tree_ : (List Int)) : Option ((List Int)) :=
  if (decide (shape = (1 : Int))) = true then (appO tree_ (x_1 - (1 : Int))).bind fun tree5 => some tree5 else if (decide (shape = (2 : Int))) = true then (atI b_ (0 : Int)).bind fun t7 => (appO tree_ (min (x_1 - (1 : Int)) (t7 % (3 : Int)))).bind fun tree8 => some tree8 else if (decide (shape = (3 : Int))) = true then (atI b_ (x_1 - (1 : Int))).bind fun t10 => (appO tree_ (max (0 : Int) ((x_1 - (1 : Int)) - (t10 % (3 : Int))))).bind fun tree11 => some tree11 else if (decide (shape = (4 : Int))) = true then (appO tree_ (x_1 / (2 : Int))).bind fun tree13 => some tree13 else (atI b_ (x_1 - (1 : Int))).bind fun t14 => (modO t14 x_1).bind fun t15 => (appO tree_ t15).bind fun tree16 => some tree16
def f_w_tree (b_ : (List Int)) (size : Int) (shape : Int) : Option (List Int) :=
  (some []).bind fun tree1 => (rngO (1 : Int) (size + (1 : Int))).bind fun is2 => (forS (fun x_1 (tree_ : (List Int)) => f_w_tree_L1 b_ size shape x_1 tree_) is2 tree1).bind fun tree32 => some tree32
def f_w_ups_L1 (tree : (List Int)) (x_1 : Int) (ups_ : (List (List Int))) : Option ((List (List Int))) :=
  (atI ups_ x_1).bind fun t3 => (catO [x_1] t3).bind fun t4 => (appO ups_ t4).bind fun ups5 => some ups5
def f_w_ups (tree : (List Int)) : Option (List (List Int)) :=
  (some [[]]).bind fun ups1 => (forS (fun x_1 (ups_ : (List (List Int))) => f_w_ups_L1 tree x_1 ups_) tree ups1).bind fun ups11 => some ups11
def f_w_thing_L1 (b_ : (List Int)) (x_1 : Int) (parts_ : (List PyData)) : Option ((List PyData)) :=
  (atI b_ ((4 : Int) + x_1)).bind fun t22 => (modO t22 ((parts_.length : Int) + (1 : Int))).bind fun p_24 => (powO (10 : Int) (20 : Int)).bind fun t25 => (atI b_ ((6 : Int) + x_1)).bind fun t26 => (atI [(PyData.int (p_24 + (1 : Int))), (PyData.int p_24), (PyData.int (-1 : Int)), (PyData.bool true), (PyData.bool false), (nn ()), (PyData.str ("0" : Str)), ((p1 PyData.int) (0 : Int)), (PyData.int t25), ((ls PyData.int) [(0 : Int)]), (PyData.int (p_24 + (2 : Int))), (PyData.int (0 : Int)), (PyData.int (parts_.length : Int)), (PyData.int (-p_24))] (t26 % (14 : Int))).bind fun odd28 => (catO (cutD parts_ none (some p_24)) [odd28]).bind fun t29 => (catO t29 (cutD parts_ (some (p_24 + (1 : Int))) none)).bind fun parts31 => some parts31
def f_w_thing_J1 (b_ : (List Int)) (tree : (List Int)) (menu : Int) (parts_ : (List PyData)) : Option (PyData) :=
  if (decide (menu = (1 : Int))) = true then some ((tp idD) parts_) else if (decide (menu = (2 : Int))) = true then some ((ls idD) parts_) else if (decide (menu = (3 : Int))) = true then (atI b_ (1 : Int)).bind fun t14 => (atI [(nn ()), (PyData.int (0 : Int)), (PyData.str ("" : Str)), (PyData.str ("0" : Str)), (PyData.bool true), ((ls (tp PyData.int)) [tree]), (PyData.int (5 : Int)), (PyData.int (7 : Int))] (t14 % (8 : Int))).bind fun t15 => some t15 else if (decide (menu = (4 : Int))) = true then some ((tp PyData.int) tree) else (atI b_ (3 : Int)).bind fun t17 => (rng1O ((1 : Int) + (t17 % (2 : Int)))).bind fun is18 => (forS (fun x_1 (parts_ : (List PyData)) => f_w_thing_L1 b_ x_1 parts_) is18 parts_).bind fun parts46 => some ((tp idD) parts46)
def f_w_thing (b_ : (List Int)) (tree : (List Int)) : Option PyData :=
  (atI b_ (0 : Int)).bind fun t1 => (some (t1 % (12 : Int))).bind fun menu2 => (some (List.map PyData.int tree)).bind fun parts3 => if (decide (menu2 < (2 : Int))) = true then (atI b_ (2 : Int)).bind fun t76 => (rng1O ((48 : Int) + (t76 % (13 : Int)))).bind fun is77 => (lcC (fun x78 => some true) (fun x78 => (atI b_ (1 : Int)).bind fun t79 => some (max (0 : Int) (x78 - (t79 % (2 : Int))))) is77).bind fun t80 => (some (List.map PyData.int t80)).bind fun parts81 => f_w_thing_J1 b_ tree menu2 parts81 else f_w_thing_J1 b_ tree menu2 parts3
def f_w_fault_L1 (x_ : PyData) (x_1 : Int) : Option (Lp (Unit) (Option (Str × Int))) :=
  (vD (p_ix x_ (PyData.int x_1))).bind fun t6 => (isD .int t6).bind fun t7 => (orO (!t7) ((vD (p_ix x_ (PyData.int x_1))).bind fun t8 => (isD .bool t8).bind fun t9 => (orO t9 ((vD (p_ix x_ (PyData.int x_1))).bind fun t10 => (bD (q_lt t10 (PyData.int (0 : Int)))).bind fun t11 => (orO (t11) ((vD (p_ix x_ (PyData.int x_1))).bind fun t12 => (bD (q_gt t12 (PyData.int x_1))).bind fun t13 => some (t13))).bind fun t14 => some t14)).bind fun t15 => some t15)).bind fun t16 => if t16 = true then some (.rt (some (("parent" : Str), x_1))) else some (.nx ())
def f_w_fault (x_ : PyData) : Option (Option (Str × Int)) :=
  (isD .tuple x_).bind fun t1 => if (!t1) = true then some (some (("shape" : Str), (-1 : Int))) else (iD (c_len [x_])).bind fun t3 => (rng1O t3).bind fun is4 => thenL (forG (fun x_1 (s_ : Unit) => f_w_fault_L1 x_ x_1) is4 ()) (fun r_ => some r_) fun s31 => some none
def f_is_number (thing : Int) : Option Bool :=
  (f_is_integer thing).bind fun t1 => some (t1 && (decide ((0 : Int) ≤ thing)))
def f_w_draws_L2 (script : (List Int)) (size : Int) (state : Int) (x_2 : Int) (row_ : (List Int)) (left_ : Int) : Option ((List Int) × Int) :=
  if ((decide ((0 : Int) < left_)) && (decide ((row_.length : Int) < size))) = true then (appO row_ (left_ % (9949 : Int))).bind fun row17 => (some (left_ / (9949 : Int))).bind fun left18 => some (row17, left18) else some (row_, left_)
def f_w_draws_J1 (script : (List Int)) (size : Int) (state : Int) (left : Int) (row_ : (List Int)) : Option ((List Int) × Int) :=
  (powO (10 : Int) (18 : Int)).bind fun t12 => if (decide (t12 ≤ left)) = true then (rng1O (60 : Int)).bind fun is14 => (forS (fun x_2 (s_ : (List Int) × Int) => f_w_draws_L2 script size state x_2 s_.1 s_.2) is14 (row_, left)).bind fun s23 => some (s23.1, state) else some (row_, state)
def f_w_draws_L1 (script : (List Int)) (size : Int) (x_1 : Int) (row_ : (List Int)) (state_ : Int) : Option ((List Int) × Int) :=
  (some x_1).bind fun left6 => (some ((((state_ * (39373 : Int)) + (left6 % (2147483629 : Int))) + (60013 : Int)) % (2147483647 : Int))).bind fun state7 => (powO (10 : Int) (18 : Int)).bind fun t8 => if ((decide (left6 < t8)) && (decide ((row_.length : Int) < size))) = true then (f_w_mixed state7).bind fun t34 => (appO row_ t34).bind fun row35 => f_w_draws_J1 script size state7 left6 row35 else f_w_draws_J1 script size state7 left6 row_
def f_w_draws_L3 (size : Int) (x_3 : Int) (row_ : (List Int)) (state_ : Int) : Option ((List Int) × Int) :=
  if (decide ((row_.length : Int) < size)) = true then (some ((state_ * (39373 : Int)) % (2147483647 : Int))).bind fun state63 => (f_w_mixed state63).bind fun t64 => (appO row_ t64).bind fun row65 => some (row65, state63) else some (row_, state_)
def f_w_draws (script : (List Int)) (size : Int) : Option (List Int) :=
  (some []).bind fun row1 => (some (0 : Int)).bind fun state2 => (forS (fun x_1 (s_ : (List Int) × Int) => f_w_draws_L1 script size x_1 s_.1 s_.2) script (row1, state2)).bind fun s56 => (rng1O size).bind fun is60 => (forS (fun x_3 (s_ : (List Int) × Int) => f_w_draws_L3 size x_3 s_.1 s_.2) is60 (s56.1, s56.2)).bind fun s71 => some s71.1
def f_check_version (history : (List Int)) (name : Str) (thing : Int) (least : Int) : Option Unit :=
  (f_is_number thing).bind fun t1 => if ((!t1) || (!(decide (least ≤ thing) && decide (thing ≤ (history.length : Int))))) = true then none else some ()
def f_parent_of (history : (List Int)) (version : Int) : Option Int :=
  (f_check_version history ("version" : Str) version (1 : Int)).bind fun t1 => (atI history (version - (1 : Int))).bind fun t2 => some t2
def f_elders_of (history : (List Int)) (version : Int) : Option (List Int) :=
  (f_check_version history ("version" : Str) version (0 : Int)).bind fun t1 => (f_upward history version).bind fun t2 => some t2
def f_path_of (history : (List Int)) (version : Int) : Option (List Int) :=
  (f_check_version history ("version" : Str) version (0 : Int)).bind fun t1 => (f_upward history version).bind fun t2 => (catO [version] t2).bind fun found4 => (lcC (fun x5 => some (decide ((0 : Int) < x5))) (fun x5 => some x5) found4.reverse).bind fun t6 => some t6
def f_is_elder (history : (List Int)) (one : Int) (other : Int) : Option Bool :=
  (f_check_version history ("one" : Str) one (0 : Int)).bind fun t1 => (f_check_version history ("other" : Str) other (0 : Int)).bind fun t2 => (f_upward history other).bind fun t3 => some (decide (one ∈ t3))
def f_meet_of_L1 (history : (List Int)) (one_ : Int) (other_ : Int) : Option (Int × Int) :=
  if (decide (other_ < one_)) = true then (atI history (one_ - (1 : Int))).bind fun one5 => some (one5, other_) else (atI history (other_ - (1 : Int))).bind fun other7 => some (one_, other7)
def f_meet_of_L1c (history : (List Int)) (one_ : Int) (other_ : Int) : Option Bool :=
  some (!decide (one_ = other_))
def f_meet_of (history : (List Int)) (one : Int) (other : Int) : Option Int :=
  (f_check_version history ("one" : Str) one (0 : Int)).bind fun t1 => (f_check_version history ("other" : Str) other (0 : Int)).bind fun t2 => (whS (fun (s_ : Int × Int) => f_meet_of_L1c history s_.1 s_.2) (fun (s_ : Int × Int) => f_meet_of_L1 history s_.1 s_.2) 3000 (one, other)).bind fun s13 => some s13.1
def f_depth_of (history : (List Int)) (version : Int) : Option Int :=
  (f_check_version history ("version" : Str) version (0 : Int)).bind fun t1 => (f_upward history version).bind fun t2 => some (t2.length : Int)
def f_children_of (history : (List Int)) (version : Int) : Option (List Int) :=
  (f_check_version history ("version" : Str) version (0 : Int)).bind fun t1 => (lcC (fun x2 => some (decide (x2.2 = version))) (fun x2 => some (x2.1 + (1 : Int))) (enumL history)).bind fun t3 => some t3
def f_branch_of_L1 (history : (List Int)) (x_1 : (Int × Int)) (inside_ : (List Bool)) : Option ((List Bool)) :=
  (atI inside_ x_1.2).bind fun t7 => if t7 = true then (putO inside_ (x_1.1 + (1 : Int)) true).bind fun inside9 => some inside9 else some inside_
def f_branch_of (history : (List Int)) (version : Int) : Option (List Int) :=
  (f_check_version history ("version" : Str) version (0 : Int)).bind fun t1 => (repO [false] ((history.length : Int) + (1 : Int))).bind fun inside3 => (putO inside3 version true).bind fun inside4 => (forS (fun x_1 (inside_ : (List Bool)) => f_branch_of_L1 history x_1 inside_) (enumL history) inside4).bind fun inside16 => (lcC (fun x19 => some x19.2) (fun x19 => some x19.1) (enumL inside16)).bind fun t20 => some t20
def f_w_door (which : Int) (tree : (List Int)) (x_ : PyData) (v_ : Int) : Option PyData := chI idD (F__law_door [PyData.int which, (tp PyData.int) tree, idD x_, PyData.int v_])
def f_w_same_B (rec_ : PyData → PyData → Option Bool) (got : PyData) (due : PyData) : Option Bool :=
  (isD .tuple due).bind fun t1 => if t1 = true then (isD .tuple got).bind fun t3 => (orO (!t3) ((iD (c_len [got])).bind fun t4 => (iD (c_len [due])).bind fun t5 => some (!decide (t4 = t5)))).bind fun t6 => if t6 = true then some false else (iD (c_len [due])).bind fun t8 => (rng1O t8).bind fun is9 => (lcC (fun x10 => some true) (fun x10 => (vD (p_ix got (PyData.int x10))).bind fun t11 => (vD (p_ix due (PyData.int x10))).bind fun t12 => (rec_ t11 t12).bind fun t13 => some t13) is9).bind fun t14 => some (t14.all id) else (isD .str due).bind fun t15 => if t15 = true then (isD .str got).bind fun t17 => (andO t17 ((bD (p_eq got due)).bind fun t18 => some t18)).bind fun t19 => some t19 else (bD (p_is due (nn ()))).bind fun t20 => (orO t20 ((isD .bool got).bind fun t21 => (isD .bool due).bind fun t22 => some (!decide (t21 = t22)))).bind fun t23 => if t23 = true then (bD (p_is due (nn ()))).bind fun t25 => (andO t25 ((bD (p_is got (nn ()))).bind fun t26 => some t26)).bind fun t27 => some t27 else (isD .int got).bind fun t28 => (andO t28 ((bD (p_eq got due)).bind fun t29 => some t29)).bind fun t30 => some t30
def f_w_same_R : Nat → PyData → PyData → Option Bool
  | 0 => fun _ _ => none
  | N + 1 => f_w_same_B (f_w_same_R N)
def f_w_same (got : PyData) (due : PyData) : Option Bool := f_w_same_R 8 got due
def f_w_judged (x_ : PyData) : Option Bool := chI PyData.bool (F__law_judged [idD x_])
def f_w_refusals_L1 (tree : (List Int)) (x_ : PyData) (v_ : Int) (names : (List Str)) (x_1 : Int) : Option (Lp (Unit) Bool) :=
  (f_w_door x_1 tree x_ v_).bind fun t6 => (atI names x_1).bind fun t7 => (f_w_same t6 ((p4 PyData.str PyData.int PyData.bool PyData.bool) (t7, (-1 : Int), true, false))).bind fun t8 => if (!t8) = true then some (.rt false) else (andO (decide ((0 : Int) < x_1)) ((f_w_door x_1 tree (PyData.int v_) v_).bind fun t10 => (f_w_same t10 ((p1 PyData.str) ("let" : Str))).bind fun t11 => some (!t11))).bind fun t12 => if t12 = true then some (.rt false) else some (.nx ())
def f_w_refusals (tree : (List Int)) (x_ : PyData) (v_ : Int) : Option Bool :=
  (repTO [("version" : Str)] (6 : Int)).bind fun t1 => (catO t1 [("one" : Str), ("other" : Str), ("one" : Str), ("other" : Str), ("one" : Str), ("one" : Str)]).bind fun names3 => (rng1O (12 : Int)).bind fun is4 => thenL (forG (fun x_1 (s_ : Unit) => f_w_refusals_L1 tree x_ v_ names3 x_1) is4 ()) (fun r_ => some r_) fun s23 => (f_w_door (0 : Int) tree (PyData.int (0 : Int)) v_).bind fun t25 => (f_w_same t25 ((p4 PyData.str PyData.int PyData.bool PyData.bool) (("version" : Str), (-1 : Int), true, false))).bind fun t26 => if (!t26) = true then some false else (orO (decide (v_ = (0 : Int))) ((f_w_door (0 : Int) tree (PyData.int v_) v_).bind fun t28 => (f_w_same t28 ((p1 PyData.str) ("let" : Str))).bind fun t29 => some t29)).bind fun t30 => some t30
def f_w_version_J1 (tree : (List Int)) (ups : (List (List Int))) (v_ : Int) (named : Bool) (branch : (List Int)) (children : (List Int)) (path : (List Int)) (got_ : ((List Int) × (List Int) × Int × (List Int) × (List Int))) : Option (Bool) :=
  (atI ups v_).bind fun t30 => (atI ups v_).bind fun t31 => (f_w_same ((p5 (tp PyData.int) (tp PyData.int) PyData.int (tp PyData.int) (tp PyData.int)) got_) ((p5 (tp PyData.int) (tp PyData.int) PyData.int (tp PyData.int) (tp PyData.int)) (t30, path, (t31.length : Int), children, branch))).bind fun t32 => if (!t32) = true then some false else if ((decide ((0 : Int) < v_)) && named) = true then (f_parent_of tree v_).bind fun t35 => (atI ups v_).bind fun t36 => (atI t36 (0 : Int)).bind fun t37 => (f_w_same (PyData.int t35) (PyData.int t37)).bind fun t38 => some t38 else (orO (decide (v_ = (0 : Int))) ((f_parent_of tree v_).bind fun t39 => (atI ups v_).bind fun t40 => (atI t40 (0 : Int)).bind fun t41 => (f_w_same (PyData.int t39) (PyData.int t41)).bind fun t42 => some t42)).bind fun t43 => some t43
def f_w_version (tree : (List Int)) (ups : (List (List Int))) (v_ : Int) (named : Bool) : Option Bool :=
  (rng1O (ups.length : Int)).bind fun is1 => (lcC (fun x2 => (orO (decide (x2 = v_)) ((atI ups x2).bind fun t3 => some (decide (v_ ∈ t3)))).bind fun t4 => some t4) (fun x2 => some x2) is1).bind fun branch6 => (rngO (1 : Int) (ups.length : Int)).bind fun is7 => (lcC (fun x8 => (atI tree (x8 - (1 : Int))).bind fun t9 => some (decide (t9 = v_))) (fun x8 => some x8) is7).bind fun children11 => (atI ups v_).bind fun t12 => (catO [v_] t12).bind fun t13 => (lcC (fun x14 => some (decide ((0 : Int) < x14))) (fun x14 => some x14) t13).bind fun t15 => (some (upI t15)).bind fun path16 => if named = true then (f_elders_of tree v_).bind fun t58 => (f_path_of tree v_).bind fun t59 => (f_depth_of tree v_).bind fun t60 => (f_children_of tree v_).bind fun t61 => (f_branch_of tree v_).bind fun t62 => (some (t58, t59, t60, t61, t62)).bind fun got63 => f_w_version_J1 tree ups v_ named branch6 children11 path16 got63 else (f_elders_of tree v_).bind fun t64 => (f_path_of tree v_).bind fun t65 => (f_depth_of tree v_).bind fun t66 => (f_children_of tree v_).bind fun t67 => (f_branch_of tree v_).bind fun t68 => (some (t64, t65, t66, t67, t68)).bind fun got69 => f_w_version_J1 tree ups v_ named branch6 children11 path16 got69
def f_w_pair (tree : (List Int)) (ups : (List (List Int))) (v_ : Int) (w_ : Int) (named : Bool) : Option Bool :=
  (atI ups v_).bind fun t1 => (catO [v_] t1).bind fun t2 => (lcC (fun x3 => (orO (decide (x3 = w_)) ((atI ups w_).bind fun t4 => some (decide (x3 ∈ t4)))).bind fun t5 => some t5) (fun x3 => some x3) t2).bind fun t6 => (maxO1 t6).bind fun both8 => if named = true then (f_is_elder tree v_ w_).bind fun t10 => (f_meet_of tree v_ w_).bind fun t11 => (some (t10, t11)).bind fun got12 => (atI ups w_).bind fun t13 => (f_w_same ((p2 PyData.bool PyData.int) got12) ((p2 PyData.bool PyData.int) ((decide (v_ ∈ t13)), both8))).bind fun t14 => some t14 else (f_is_elder tree v_ w_).bind fun t15 => (f_meet_of tree v_ w_).bind fun t16 => (some (t15, t16)).bind fun got17 => (atI ups w_).bind fun t18 => (f_w_same ((p2 PyData.bool PyData.int) got17) ((p2 PyData.bool PyData.int) ((decide (v_ ∈ t18)), both8))).bind fun t19 => some t19
def f_w_whole (tree : (List Int)) (ups : (List (List Int))) (named : Bool) : Option Bool :=
  (lcC (fun x1 => some true) (fun x1 => some x1) tree).bind fun parents3 => (rng1O (ups.length : Int)).bind fun is4 => (lcC (fun x5 => some (!decide (x5 ∈ parents3))) (fun x5 => some x5) is4).bind fun leaves7 => (rgLO (0 : Int) (tree.length : Int)).bind fun t8 => (some (decide (tree = t8))).bind fun straight9 => if named = true then (f_many_of tree).bind fun t11 => (f_depth_in tree).bind fun t12 => (f_leaves_of tree).bind fun t13 => (f_is_line tree).bind fun t14 => (some (t11, t12, t13, t14)).bind fun got15 => (lcC (fun x16 => some true) (fun x16 => some (x16.length : Int)) ups).bind fun t17 => (maxO1 t17).bind fun t18 => (f_w_same ((p4 PyData.int PyData.int (tp PyData.int) PyData.bool) got15) ((p4 PyData.int PyData.int (tp PyData.int) PyData.bool) ((tree.length : Int), t18, leaves7, straight9))).bind fun t19 => some t19 else (f_many_of tree).bind fun t20 => (f_depth_in tree).bind fun t21 => (f_leaves_of tree).bind fun t22 => (f_is_line tree).bind fun t23 => (some (t20, t21, t22, t23)).bind fun got24 => (lcC (fun x25 => some true) (fun x25 => some (x25.length : Int)) ups).bind fun t26 => (maxO1 t26).bind fun t27 => (f_w_same ((p4 PyData.int PyData.int (tp PyData.int) PyData.bool) got24) ((p4 PyData.int PyData.int (tp PyData.int) PyData.bool) ((tree.length : Int), t27, leaves7, straight9))).bind fun t28 => some t28
def f_law_L1 (row : (List Int)) (size : Int) (tree : (List Int)) (ups : (List (List Int))) (asks : (List Int)) (pairs : (List (Int × Int))) (x_1 : Int) : Option (Lp (Unit) Bool) :=
  (f_w_version tree ups x_1 false).bind fun t46 => if (!t46) = true then some (.rt false) else some (.nx ())
def f_law_L2 (row : (List Int)) (size : Int) (tree : (List Int)) (ups : (List (List Int))) (pairs : (List (Int × Int))) (x_2 : (Int × Int)) : Option (Lp (Unit) Bool) :=
  (f_w_pair tree ups x_2.1 x_2.2 false).bind fun t55 => if (!t55) = true then some (.rt false) else some (.nx ())
def f_law_J2 (row : (List Int)) (size : Int) (tree : (List Int)) (ups : (List (List Int))) (asks_ : (List Int)) (pairs_ : (List (Int × Int))) : Option (Bool) :=
  thenL (forG (fun x_1 (s_ : Unit) => f_law_L1 row size tree ups asks_ pairs_ x_1) asks_ ()) (fun r_ => some r_) fun s51 => thenL (forG (fun x_2 (s_ : Unit) => f_law_L2 row size tree ups pairs_ x_2) pairs_ ()) (fun r_ => some r_) fun s61 => (atI row (108 : Int)).bind fun t64 => (modO t64 (size + (1 : Int))).bind fun v_66 => (atI row (109 : Int)).bind fun t67 => (modO t67 (size + (1 : Int))).bind fun w_69 => (f_w_version tree ups w_69 true).bind fun t70 => (orO (!t70) ((f_w_pair tree ups v_66 w_69 true).bind fun t71 => some (!t71))).bind fun t72 => if t72 = true then some false else (powO (10 : Int) (20 : Int)).bind fun t74 => (atI row (110 : Int)).bind fun t75 => (atI [(PyData.int (size + (1 : Int))), (PyData.int (-1 : Int)), (PyData.bool true), (PyData.bool false), (nn ()), (PyData.str ("0" : Str)), ((p1 PyData.int) v_66), ((ls PyData.int) [v_66]), (PyData.int (size + (2 : Int))), (PyData.int t74), (PyData.int ((-size) - (1 : Int))), ((tp PyData.int) [])] (t75 % (12 : Int))).bind fun odd77 => (f_w_refusals tree odd77 v_66).bind fun t78 => (andO t78 ((f_w_whole tree ups true).bind fun t79 => some t79)).bind fun t80 => some t80
def f_law_J1 (row : (List Int)) (size_ : Int) : Option (Bool) :=
  (atI row (42 : Int)).bind fun t9 => (f_w_tree (cutD row (some (2 : Int)) (some (42 : Int))) size_ (t9 % (8 : Int))).bind fun tree11 => (f_w_ups tree11).bind fun ups13 => (f_w_judged ((tp PyData.int) tree11)).bind fun t14 => (orO (!t14) ((f_w_thing (cutD row (some (43 : Int)) (some (52 : Int))) tree11).bind fun t15 => (f_w_judged t15).bind fun t16 => some (!t16))).bind fun t17 => if t17 = true then some false else (f_w_whole tree11 ups13 false).bind fun t19 => if (!t19) = true then some false else (rgLO (0 : Int) (size_ + (1 : Int))).bind fun asks22 => (mulO (size_ + (1 : Int)) (size_ + (1 : Int))).bind fun t23 => (rng1O t23).bind fun is24 => (lcC (fun x25 => some true) (fun x25 => (divO x25 (size_ + (1 : Int))).bind fun t26 => (modO x25 (size_ + (1 : Int))).bind fun t27 => some (t26, t27)) is24).bind fun pairs29 => if (decide ((9 : Int) < size_)) = true then (rng1O (8 : Int)).bind fun is110 => (lcC (fun x111 => some true) (fun x111 => (atI row ((52 : Int) + x111)).bind fun t112 => (modO t112 (size_ + (1 : Int))).bind fun t113 => some t113) is110).bind fun asks115 => (rng1O (24 : Int)).bind fun is116 => (lcC (fun x117 => some true) (fun x117 => (atI row ((60 : Int) + x117)).bind fun t118 => (modO t118 (size_ + (1 : Int))).bind fun t119 => (atI row ((84 : Int) + x117)).bind fun t120 => (modO t120 (size_ + (1 : Int))).bind fun t121 => some (t119, t121)) is116).bind fun pairs123 => f_law_J2 row size_ tree11 ups13 asks115 pairs123 else f_law_J2 row size_ tree11 ups13 asks22 pairs29
def f_law (script : (List Int)) : Option Bool :=
  (f_w_draws script (128 : Int)).bind fun row2 => (atI row2 (0 : Int)).bind fun t3 => (some (t3 % (10 : Int))).bind fun size4 => (atI row2 (1 : Int)).bind fun t5 => if (decide ((9 : Int) < (t5 % (12 : Int)))) = true then (atI row2 (1 : Int)).bind fun t203 => (some ((24 : Int) + ((16 : Int) * ((t203 % (12 : Int)) - (10 : Int))))).bind fun size204 => f_law_J1 row2 size204 else f_law_J1 row2 size4
end
end K02
namespace K02
open PySem PySem.Spec PyProof.Rows L2 DL
theorem k_is_integer {thing : Int} {r : Bool} (h : f_is_integer thing = some r) : F_is_integer [PyData.int thing] = some (.im (PyData.bool r)) := by
  unfold f_is_integer at h
  refine t_fnI (enc := PyData.bool) rfl ?_
  show wS _ [im (PyData.int thing)] _
  cases h
  refine (w_ret (andXt (isX (vI rfl) rfl rfl) (notX (isX (vI rfl) rfl rfl))) ?_)
  exact rfl
theorem k_many_of {history : (List Int)} {r : Int} (h : f_many_of history = some r) : F_many_of [(tp PyData.int) history] = some (.im (PyData.int r)) := by
  unfold f_many_of at h
  refine t_fnI (enc := PyData.int) rfl ?_
  show wS _ [im ((tp PyData.int) history)] _
  cases h
  refine (w_ret (cbX (dX (vI rfl) d0 rfl) (o_lenT (f := PyData.int) (l := history))) ?_)
  exact rfl
theorem k__upward {history : (List Int)} {version : Int} {r : (List Int)} (h : f_upward history version = some r) : F__upward [(tp PyData.int) history, PyData.int version] = some (.ac (r.map PyData.int)) := by
  unfold f_upward at h
  refine t_fnA (enc := PyData.int) rfl ?_
  show wS _ [im ((tp PyData.int) history), im (PyData.int version), none] _
  obtain ⟨found1, h_found1, h⟩ := bnd h
  refine w_seq ((t_setA (f := PyData.int) (v := []) (w := found1) h_found1 (lstX a0 (Nat.le_of_ble_eq_true rfl)) rfl ?_))
  show wS _ [im ((tp PyData.int) history), im (PyData.int version), ac (found1.map PyData.int)] _
  obtain ⟨s8, hl, h⟩ := bnd h
  refine w_seq ((t_whS (fun (s_ : Int × (List Int)) => f_upward_L1c history s_.1 s_.2) (fun (s_ : Int × (List Int)) => f_upward_L1 history s_.1 s_.2) (fun (s_ : Int × (List Int)) e => e = [im ((tp PyData.int) history), im (PyData.int s_.1), ac (s_.2.map PyData.int)]) (N := (version.toNat + 1)) rfl rfl hl (fun s_ b_ h e he => ?_) (fun s_ s2_ h e he => ?_) (fun e he => ?_)))
  · subst he
    obtain ⟨version_, found_⟩ := s_
    replace h : f_upward_L1c history version_ found_ = some b_ := h
    unfold f_upward_L1c at h
    cases h
    exact (bang (binX (vI rfl) cI rfl rfl e_qgt))
  · subst he
    obtain ⟨version_, found_⟩ := s_
    show wS _ [im ((tp PyData.int) history), im (PyData.int version_), ac (found_.map PyData.int)] _
    replace h : f_upward_L1 history version_ found_ = some s2_ := h
    unfold f_upward_L1 at h
    obtain ⟨version6, h_t5, h⟩ := bnd h
    refine w_seq ((t_set (f := PyData.int) (v := version6) (w := version6) rfl (binX (vI rfl) (binX (vI rfl) cI rfl rfl e_sub) rfl rfl (o_ixT (f := PyData.int) (l := history) h_t5)) rfl ?_))
    show wS _ [im ((tp PyData.int) history), im (PyData.int version6), ac (found_.map PyData.int)] _
    obtain ⟨found7, h_found7, h⟩ := bnd h
    refine w_seq ((t_app (f := PyData.int) (l := found_) (a := version6) h_found7 ⟨_, (vI rfl), rfl⟩ rfl rfl ?_))
    show wS _ [im ((tp PyData.int) history), im (PyData.int version6), ac (found7.map PyData.int)] _
    refine w_nx ?_
    cases h
    exact rfl
  · subst he
    show wS _ [im ((tp PyData.int) history), im (PyData.int s8.1), ac (s8.2.map PyData.int)] _
    cases h
    refine w_seq ((w_ret (vB rfl) ?_))
    exact rfl
theorem k_depth_in {history : (List Int)} {r : Int} (h : f_depth_in history = some r) : F_depth_in [(tp PyData.int) history] = some (.im (PyData.int r)) := by
  unfold f_depth_in at h
  refine t_fnI (enc := PyData.int) rfl ?_
  show wS _ [im ((tp PyData.int) history), none, none] _
  obtain ⟨depths1, h_depths1, h⟩ := bnd h
  refine w_seq ((t_setA (f := PyData.int) (v := [(0 : Int)]) (w := depths1) h_depths1 (lstX (aI cI a0) (Nat.le_of_ble_eq_true rfl)) rfl ?_))
  show wS _ [im ((tp PyData.int) history), ac (depths1.map PyData.int), none] _
  obtain ⟨depths9, hl, h⟩ := bnd h
  refine w_seq ((t_forS PyData.int history (fun x_1 (depths_ : (List Int)) => f_depth_in_L1 history x_1 depths_) (fun (depths_ : (List Int)) e => ∃ (o5 : Option PyData), e = [im ((tp PyData.int) history), ac (depths_.map PyData.int), imo o5]) (seqTX (f := PyData.int) (l := history) (vI rfl)) ⟨none, rfl⟩ hl (fun x_1 depths_ s2_ h e he => ?_) (fun e he => ?_)))
  · obtain ⟨o5, rfl⟩ := he
    refine ⟨rfl, _, rfl, ?_⟩
    show wS _ [im ((tp PyData.int) history), ac (depths_.map PyData.int), im (PyData.int x_1)] _
    replace h : f_depth_in_L1 history x_1 depths_ = some s2_ := h
    unfold f_depth_in_L1 at h
    obtain ⟨t6, h_t6, h⟩ := bnd h
    obtain ⟨depths7, h_depths7, h⟩ := bnd h
    refine (t_app (f := PyData.int) (l := depths_) (a := (t6 + (1 : Int))) h_depths7 ⟨_, (binX (binX (vB rfl) (vI rfl) rfl rfl (o_ixL (f := PyData.int) (l := depths_) h_t6)) cI rfl rfl e_add), rfl⟩ rfl rfl ?_)
    cases h
    exact ⟨some (PyData.int x_1), rfl⟩
  · obtain ⟨o10, rfl⟩ := he
    show wS _ [im ((tp PyData.int) history), ac (depths9.map PyData.int), imo o10] _
    obtain ⟨t11, h_t11, h⟩ := bnd h
    cases h
    refine w_seq ((w_ret (cbX (dX (vB rfl) d0 rfl) (o_maxL (l := depths9) h_t11)) ?_))
    exact rfl
theorem k_leaves_of {history : (List Int)} {r : (List Int)} (h : f_leaves_of history = some r) : F_leaves_of [(tp PyData.int) history] = some (.im ((tp PyData.int) r)) := by
  unfold f_leaves_of at h
  refine t_fnI (enc := (tp PyData.int)) rfl ?_
  show wS _ [im ((tp PyData.int) history), none] _
  obtain ⟨is1, h_is1, h⟩ := bnd h
  obtain ⟨t3, h_t3, h⟩ := bnd h
  cases h
  refine (w_ret (cbX (dX (lcX (enc := PyData.int) (encB := PyData.int) h_t3 (rng1I (binX (cbX (dX (vI rfl) d0 rfl) (o_lenT (f := PyData.int) (l := history))) cI rfl rfl e_add) h_is1) rfl (fun x2 _ => ⟨_, rfl, rfl, fun _ hq => (by have hq := Option.some.inj hq; subst hq; exact (bang (binX (vI rfl) (vI rfl) rfl rfl (o_notinT (x := x2) (l := history))))), fun _ _ hq => (by have hq := Option.some.inj hq; subst hq; exact ⟨_, (vI rfl), rfl, rfl⟩)⟩)) d0 rfl) rfl) ?_)
  exact rfl
theorem k_is_line {history : (List Int)} {r : Bool} (h : f_is_line history = some r) : F_is_line [(tp PyData.int) history] = some (.im (PyData.bool r)) := by
  unfold f_is_line at h
  refine t_fnI (enc := PyData.bool) rfl ?_
  show wS _ [im ((tp PyData.int) history)] _
  obtain ⟨t1, h_t1, h⟩ := bnd h
  cases h
  refine (w_ret (binX (vI rfl) (trgX (rg1X (cbX (dX (vI rfl) d0 rfl) (o_lenT (f := PyData.int) (l := history)))) h_t1) rfl rfl (o_eq (f := (tp PyData.int)) (by decide) history t1)) ?_)
  exact rfl
theorem k__law_mixed {state : Int} {r : Int} (h : f_w_mixed state = some r) : F__law_mixed [PyData.int state] = some (.im (PyData.int r)) := by
  unfold f_w_mixed at h
  refine t_fnI (enc := PyData.int) rfl ?_
  show wS _ [im (PyData.int state), none] _
  obtain ⟨t1, h_t1, h⟩ := bnd h
  obtain ⟨twice2, h_twice2, h⟩ := bnd h
  refine w_seq ((t_set (f := PyData.int) (v := (t1 % (2147483629 : Int))) (w := twice2) h_twice2 (binX (cbX (dX (binX (vI rfl) (binX (binX (cbX (dX (binX (vI rfl) cI rfl rfl (e_div (by decide) (by decide))) d0 rfl) o_int) cI rfl rfl (e_mod (by decide))) cI rfl rfl e_add) rfl rfl (o_mul h_t1)) d0 rfl) o_int) cI rfl rfl (e_mod (by decide))) rfl ?_))
  show wS _ [im (PyData.int state), im (PyData.int twice2)] _
  obtain ⟨t3, h_t3, h⟩ := bnd h
  cases h
  refine w_seq ((w_ret (binX (cbX (dX (binX (binX (cbX (dX (binX (vI rfl) (binX (binX (cbX (dX (binX (vI rfl) cI rfl rfl (e_div (by decide) (by decide))) d0 rfl) o_int) cI rfl rfl (e_mod (by decide))) cI rfl rfl e_add) rfl rfl (o_mul h_t3)) d0 rfl) o_int) cI rfl rfl (e_mod (by decide))) cI rfl rfl (e_div (by decide) (by decide))) d0 rfl) o_int) cI rfl rfl (e_mod (by decide))) ?_))
  exact rfl
theorem k__law_tree {b_ : (List Int)} {size : Int} {shape : Int} {r : (List Int)} (h : f_w_tree b_ size shape = some r) : F__law_tree [(ls PyData.int) b_, PyData.int size, PyData.int shape] = some (.im ((tp PyData.int) r)) := by
  unfold f_w_tree at h
  refine t_fnI (enc := (tp PyData.int)) rfl ?_
  show wS _ [im ((ls PyData.int) b_), im (PyData.int size), im (PyData.int shape), none, none] _
  obtain ⟨tree1, h_tree1, h⟩ := bnd h
  refine w_seq ((t_setA (f := PyData.int) (v := []) (w := tree1) h_tree1 (lstX a0 (Nat.le_of_ble_eq_true rfl)) rfl ?_))
  show wS _ [im ((ls PyData.int) b_), im (PyData.int size), im (PyData.int shape), ac (tree1.map PyData.int), none] _
  obtain ⟨is2, h_is2, h⟩ := bnd h
  obtain ⟨tree32, hl, h⟩ := bnd h
  refine w_seq ((t_forS PyData.int is2 (fun x_1 (tree_ : (List Int)) => f_w_tree_L1 b_ size shape x_1 tree_) (fun (tree_ : (List Int)) e => ∃ (o17 : Option PyData), e = [im ((ls PyData.int) b_), im (PyData.int size), im (PyData.int shape), ac (tree_.map PyData.int), imo o17]) (rng2I cI (binX (vI rfl) cI rfl rfl e_add) h_is2) ⟨none, rfl⟩ hl (fun x_1 tree_ s2_ h e he => ?_) (fun e he => ?_)))
  · obtain ⟨o17, rfl⟩ := he
    refine ⟨rfl, _, rfl, ?_⟩
    show wS _ [im ((ls PyData.int) b_), im (PyData.int size), im (PyData.int shape), ac (tree_.map PyData.int), im (PyData.int x_1)] _
    replace h : f_w_tree_L1 b_ size shape x_1 tree_ = some s2_ := h
    unfold f_w_tree_L1 at h
    refine (w_if (b := (decide (shape = (1 : Int)))) (bang (binX (vI rfl) cI rfl rfl e_eq)) (fun hc18 => ?_) (fun hc18 => ?_))
    · rw [if1 hc18] at h
      obtain ⟨tree19, h_tree19, h⟩ := bnd h
      refine (t_app (f := PyData.int) (l := tree_) (a := (x_1 - (1 : Int))) h_tree19 ⟨_, (binX (vI rfl) cI rfl rfl e_sub), rfl⟩ rfl rfl ?_)
      cases h
      exact ⟨some (PyData.int x_1), rfl⟩
    · rw [if0 hc18] at h
      refine (w_if (b := (decide (shape = (2 : Int)))) (bang (binX (vI rfl) cI rfl rfl e_eq)) (fun hc20 => ?_) (fun hc20 => ?_))
      · rw [if1 hc20] at h
        obtain ⟨t21, h_t21, h⟩ := bnd h
        obtain ⟨tree22, h_tree22, h⟩ := bnd h
        refine (t_app (f := PyData.int) (l := tree_) (a := (min (x_1 - (1 : Int)) (t21 % (3 : Int)))) h_tree22 ⟨_, (cbX (dX (binX (vI rfl) cI rfl rfl e_sub) (dX (binX (cbX (dX (binX (vI rfl) cI rfl rfl (o_ixL (f := PyData.int) (l := b_) h_t21)) d0 rfl) o_int) cI rfl rfl (e_mod (by decide))) d0 rfl) rfl) o_min2), rfl⟩ rfl rfl ?_)
        cases h
        exact ⟨some (PyData.int x_1), rfl⟩
      · rw [if0 hc20] at h
        refine (w_if (b := (decide (shape = (3 : Int)))) (bang (binX (vI rfl) cI rfl rfl e_eq)) (fun hc23 => ?_) (fun hc23 => ?_))
        · rw [if1 hc23] at h
          obtain ⟨t24, h_t24, h⟩ := bnd h
          obtain ⟨tree25, h_tree25, h⟩ := bnd h
          refine (t_app (f := PyData.int) (l := tree_) (a := (max (0 : Int) ((x_1 - (1 : Int)) - (t24 % (3 : Int))))) h_tree25 ⟨_, (cbX (dX cI (dX (binX (binX (vI rfl) cI rfl rfl e_sub) (binX (cbX (dX (binX (vI rfl) (binX (vI rfl) cI rfl rfl e_sub) rfl rfl (o_ixL (f := PyData.int) (l := b_) h_t24)) d0 rfl) o_int) cI rfl rfl (e_mod (by decide))) rfl rfl e_sub) d0 rfl) rfl) o_max2), rfl⟩ rfl rfl ?_)
          cases h
          exact ⟨some (PyData.int x_1), rfl⟩
        · rw [if0 hc23] at h
          refine (w_if (b := (decide (shape = (4 : Int)))) (bang (binX (vI rfl) cI rfl rfl e_eq)) (fun hc26 => ?_) (fun hc26 => ?_))
          · rw [if1 hc26] at h
            obtain ⟨tree27, h_tree27, h⟩ := bnd h
            refine (t_app (f := PyData.int) (l := tree_) (a := (x_1 / (2 : Int))) h_tree27 ⟨_, (binX (vI rfl) cI rfl rfl (e_div (by decide) (by decide))), rfl⟩ rfl rfl ?_)
            cases h
            exact ⟨some (PyData.int x_1), rfl⟩
          · rw [if0 hc26] at h
            obtain ⟨t28, h_t28, h⟩ := bnd h
            obtain ⟨t29, h_t29, h⟩ := bnd h
            obtain ⟨tree30, h_tree30, h⟩ := bnd h
            refine (t_app (f := PyData.int) (l := tree_) (a := t29) h_tree30 ⟨_, (binX (cbX (dX (binX (vI rfl) (binX (vI rfl) cI rfl rfl e_sub) rfl rfl (o_ixL (f := PyData.int) (l := b_) h_t28)) d0 rfl) o_int) (vI rfl) rfl rfl (o_mod h_t29)), rfl⟩ rfl rfl ?_)
            cases h
            exact ⟨some (PyData.int x_1), rfl⟩
  · obtain ⟨o33, rfl⟩ := he
    show wS _ [im ((ls PyData.int) b_), im (PyData.int size), im (PyData.int shape), ac (tree32.map PyData.int), imo o33] _
    cases h
    refine w_seq ((w_ret (cbX (dX (vB rfl) d0 rfl) rfl) ?_))
    exact rfl
theorem k__law_ups {tree : (List Int)} {r : (List (List Int))} (h : f_w_ups tree = some r) : F__law_ups [(tp PyData.int) tree] = some (.ac (r.map (ls PyData.int))) := by
  unfold f_w_ups at h
  refine t_fnA (enc := (ls PyData.int)) rfl ?_
  show wS _ [im ((tp PyData.int) tree), none, none] _
  obtain ⟨ups1, h_ups1, h⟩ := bnd h
  refine w_seq ((t_setA (f := (ls PyData.int)) (v := [[]]) (w := ups1) h_ups1 (lstX (aA (lstX a0 (Nat.le_of_ble_eq_true rfl)) a0) (Nat.le_of_ble_eq_true rfl)) rfl ?_))
  show wS _ [im ((tp PyData.int) tree), ac (ups1.map (ls PyData.int)), none] _
  obtain ⟨ups11, hl, h⟩ := bnd h
  refine w_seq ((t_forS PyData.int tree (fun x_1 (ups_ : (List (List Int))) => f_w_ups_L1 tree x_1 ups_) (fun (ups_ : (List (List Int))) e => ∃ (o6 : Option PyData), e = [im ((tp PyData.int) tree), ac (ups_.map (ls PyData.int)), imo o6]) (seqTX (f := PyData.int) (l := tree) (vI rfl)) ⟨none, rfl⟩ hl (fun x_1 ups_ s2_ h e he => ?_) (fun e he => ?_)))
  · obtain ⟨o6, rfl⟩ := he
    refine ⟨rfl, _, rfl, ?_⟩
    show wS _ [im ((tp PyData.int) tree), ac (ups_.map (ls PyData.int)), im (PyData.int x_1)] _
    replace h : f_w_ups_L1 tree x_1 ups_ = some s2_ := h
    unfold f_w_ups_L1 at h
    obtain ⟨t7, h_t7, h⟩ := bnd h
    obtain ⟨t8, h_t8, h⟩ := bnd h
    obtain ⟨ups9, h_ups9, h⟩ := bnd h
    refine (t_app (f := (ls PyData.int)) (l := ups_) (a := t8) h_ups9 ⟨_, (binX (lstX (aI (vI rfl) a0) (Nat.le_of_ble_eq_true rfl)) (binX (vB rfl) (vI rfl) rfl rfl (o_ixL (f := (ls PyData.int)) (l := ups_) h_t7)) rfl rfl (o_catL (f := PyData.int) (l := [x_1]) (m := t7) h_t8)), rfl⟩ rfl rfl ?_)
    cases h
    exact ⟨some (PyData.int x_1), rfl⟩
  · obtain ⟨o12, rfl⟩ := he
    show wS _ [im ((tp PyData.int) tree), ac (ups11.map (ls PyData.int)), imo o12] _
    cases h
    refine w_seq ((w_ret (vB rfl) ?_))
    exact rfl
theorem k__law_thing {b_ : (List Int)} {tree : (List Int)} {r : PyData} (h : f_w_thing b_ tree = some r) : F__law_thing [(ls PyData.int) b_, (tp PyData.int) tree] = some (.im (idD r)) := by
  unfold f_w_thing at h
  refine t_fnI (enc := idD) rfl ?_
  show wS _ [im ((ls PyData.int) b_), im ((tp PyData.int) tree), none, none, none, none, none] _
  obtain ⟨t1, h_t1, h⟩ := bnd h
  obtain ⟨menu2, h_menu2, h⟩ := bnd h
  refine w_seq ((t_set (f := PyData.int) (v := (t1 % (12 : Int))) (w := menu2) h_menu2 (binX (cbX (dX (binX (vI rfl) cI rfl rfl (o_ixL (f := PyData.int) (l := b_) h_t1)) d0 rfl) o_int) cI rfl rfl (e_mod (by decide))) rfl ?_))
  show wS _ [im ((ls PyData.int) b_), im ((tp PyData.int) tree), im (PyData.int menu2), none, none, none, none] _
  obtain ⟨parts3, h_parts3, h⟩ := bnd h
  refine w_seq ((t_setL (f := idD) (v := (List.map PyData.int tree)) (w := parts3) h_parts3 (acAny (f := PyData.int) (l := tree) (cbX (dX (vI rfl) d0 rfl) rfl)) rfl ?_))
  show wS _ [im ((ls PyData.int) b_), im ((tp PyData.int) tree), im (PyData.int menu2), im ((ls idD) parts3), none, none, none] _
  refine t_join (fun (parts_ : (List PyData)) e => e = [im ((ls PyData.int) b_), im ((tp PyData.int) tree), im (PyData.int menu2), im ((ls idD) parts_), none, none, none]) (fun (parts_ : (List PyData)) => f_w_thing_J1 b_ tree menu2 parts_) (t := r) (fun parts_ e he h => ?_) ?_
  · subst he
    replace h : f_w_thing_J1 b_ tree menu2 parts_ = some r := h
    unfold f_w_thing_J1 at h
    show wS _ [im ((ls PyData.int) b_), im ((tp PyData.int) tree), im (PyData.int menu2), im ((ls idD) parts_), none, none, none] _
    refine w_seq ((w_if (b := (decide (menu2 = (1 : Int)))) (bang (binX (vI rfl) cI rfl rfl e_eq)) (fun hc50 => ?_) (fun hc50 => ?_)))
    · rw [if1 hc50] at h
      cases h
      refine (w_ret (cbX (dX (vI rfl) d0 rfl) rfl) ?_)
      exact rfl
    · rw [if0 hc50] at h
      refine w_nx ?_
      show wS _ [im ((ls PyData.int) b_), im ((tp PyData.int) tree), im (PyData.int menu2), im ((ls idD) parts_), none, none, none] _
      refine w_seq ((w_if (b := (decide (menu2 = (2 : Int)))) (bang (binX (vI rfl) cI rfl rfl e_eq)) (fun hc51 => ?_) (fun hc51 => ?_)))
      · rw [if1 hc51] at h
        cases h
        refine (w_ret (vI rfl) ?_)
        exact rfl
      · rw [if0 hc51] at h
        refine w_nx ?_
        show wS _ [im ((ls PyData.int) b_), im ((tp PyData.int) tree), im (PyData.int menu2), im ((ls idD) parts_), none, none, none] _
        refine w_seq ((w_if (b := (decide (menu2 = (3 : Int)))) (bang (binX (vI rfl) cI rfl rfl e_eq)) (fun hc52 => ?_) (fun hc52 => ?_)))
        · rw [if1 hc52] at h
          obtain ⟨t53, h_t53, h⟩ := bnd h
          obtain ⟨t54, h_t54, h⟩ := bnd h
          cases h
          refine (w_ret (binX (tupI (aI cI (aI cI (aI cI (aI cI (aI cI (aA (lstX (aI (vI rfl) a0) (Nat.le_of_ble_eq_true rfl)) (aI cI (aI cI a0)))))))) (Nat.le_of_ble_eq_true rfl)) (binX (cbX (dX (binX (vI rfl) cI rfl rfl (o_ixL (f := PyData.int) (l := b_) h_t53)) d0 rfl) o_int) cI rfl rfl (e_mod (by decide))) rfl rfl (o_ixT (f := idD) (l := [(nn ()), (PyData.int (0 : Int)), (PyData.str ("" : Str)), (PyData.str ("0" : Str)), (PyData.bool true), ((ls (tp PyData.int)) [tree]), (PyData.int (5 : Int)), (PyData.int (7 : Int))]) h_t54)) ?_)
          exact rfl
        · rw [if0 hc52] at h
          refine w_nx ?_
          show wS _ [im ((ls PyData.int) b_), im ((tp PyData.int) tree), im (PyData.int menu2), im ((ls idD) parts_), none, none, none] _
          refine w_seq ((w_if (b := (decide (menu2 = (4 : Int)))) (bang (binX (vI rfl) cI rfl rfl e_eq)) (fun hc55 => ?_) (fun hc55 => ?_)))
          · rw [if1 hc55] at h
            cases h
            refine (w_ret (vI rfl) ?_)
            exact rfl
          · rw [if0 hc55] at h
            refine w_nx ?_
            show wS _ [im ((ls PyData.int) b_), im ((tp PyData.int) tree), im (PyData.int menu2), im ((ls idD) parts_), none, none, none] _
            obtain ⟨t56, h_t56, h⟩ := bnd h
            obtain ⟨is57, h_is57, h⟩ := bnd h
            obtain ⟨parts72, hl, h⟩ := bnd h
            refine w_seq ((t_forS PyData.int is57 (fun x_1 (parts_ : (List PyData)) => f_w_thing_L1 b_ x_1 parts_) (fun (parts_ : (List PyData)) e => ∃ (o58 : Option PyData) (o59 : Option PyData) (o60 : Option PyData), e = [im ((ls PyData.int) b_), im ((tp PyData.int) tree), im (PyData.int menu2), im ((ls idD) parts_), imo o58, imo o59, imo o60]) (rng1I (binX cI (binX (cbX (dX (binX (vI rfl) cI rfl rfl (o_ixL (f := PyData.int) (l := b_) h_t56)) d0 rfl) o_int) cI rfl rfl (e_mod (by decide))) rfl rfl e_add) h_is57) ⟨none, none, none, rfl⟩ hl (fun x_1 parts_ s2_ h e he => ?_) (fun e he => ?_)))
            · obtain ⟨o58, o59, o60, rfl⟩ := he
              refine ⟨rfl, _, rfl, ?_⟩
              show wS _ [im ((ls PyData.int) b_), im ((tp PyData.int) tree), im (PyData.int menu2), im ((ls idD) parts_), im (PyData.int x_1), imo o59, imo o60] _
              replace h : f_w_thing_L1 b_ x_1 parts_ = some s2_ := h
              unfold f_w_thing_L1 at h
              obtain ⟨t61, h_t61, h⟩ := bnd h
              obtain ⟨p_63, h_t62, h⟩ := bnd h
              refine w_seq ((t_set (f := PyData.int) (v := p_63) (w := p_63) rfl (binX (cbX (dX (binX (vI rfl) (binX cI (vI rfl) rfl rfl e_add) rfl rfl (o_ixL (f := PyData.int) (l := b_) h_t61)) d0 rfl) o_int) (binX (cbX (dX (vI rfl) d0 rfl) (o_lenL (f := idD) (l := parts_))) cI rfl rfl e_add) rfl rfl (o_mod h_t62)) rfl ?_))
              show wS _ [im ((ls PyData.int) b_), im ((tp PyData.int) tree), im (PyData.int menu2), im ((ls idD) parts_), im (PyData.int x_1), im (PyData.int p_63), imo o60] _
              obtain ⟨t64, h_t64, h⟩ := bnd h
              obtain ⟨t65, h_t65, h⟩ := bnd h
              obtain ⟨odd67, h_t66, h⟩ := bnd h
              refine w_seq ((t_set (f := idD) (v := odd67) (w := odd67) rfl (binX (tupI (aI (binX (vI rfl) cI rfl rfl e_add) (aI (vI rfl) (aI (negI cI) (aI cI (aI cI (aI cI (aI cI (aI (tupI (aI cI a0) (Nat.le_of_ble_eq_true rfl)) (aI (binX cI cI rfl rfl (o_pow h_t64)) (aA (lstX (aI cI a0) (Nat.le_of_ble_eq_true rfl)) (aI (binX (vI rfl) cI rfl rfl e_add) (aI cI (aI (cbX (dX (vI rfl) d0 rfl) (o_lenL (f := idD) (l := parts_))) (aI (negI (vI rfl)) a0)))))))))))))) (Nat.le_of_ble_eq_true rfl)) (binX (cbX (dX (binX (vI rfl) (binX cI (vI rfl) rfl rfl e_add) rfl rfl (o_ixL (f := PyData.int) (l := b_) h_t65)) d0 rfl) o_int) cI rfl rfl (e_mod (by decide))) rfl rfl (o_ixT (f := idD) (l := [(PyData.int (p_63 + (1 : Int))), (PyData.int p_63), (PyData.int (-1 : Int)), (PyData.bool true), (PyData.bool false), (nn ()), (PyData.str ("0" : Str)), ((p1 PyData.int) (0 : Int)), (PyData.int t64), ((ls PyData.int) [(0 : Int)]), (PyData.int (p_63 + (2 : Int))), (PyData.int (0 : Int)), (PyData.int (parts_.length : Int)), (PyData.int (-p_63))]) h_t66)) rfl ?_))
              show wS _ [im ((ls PyData.int) b_), im ((tp PyData.int) tree), im (PyData.int menu2), im ((ls idD) parts_), im (PyData.int x_1), im (PyData.int p_63), im (idD odd67)] _
              obtain ⟨t68, h_t68, h⟩ := bnd h
              obtain ⟨parts70, h_t69, h⟩ := bnd h
              refine w_seq ((t_setL (f := idD) (v := parts70) (w := parts70) rfl (binX (binX (cutLX (f := idD) (l := parts_) (vI rfl) oN (oA (vI rfl)) rfl) (lstX (aI (vI rfl) a0) (Nat.le_of_ble_eq_true rfl)) rfl rfl (o_catL (f := idD) (l := (cutD parts_ none (some p_63))) (m := [odd67]) h_t68)) (cutLX (f := idD) (l := parts_) (vI rfl) (oA (binX (vI rfl) cI rfl rfl e_add)) oN rfl) rfl rfl (o_catL (f := idD) (l := t68) (m := (cutD parts_ (some (p_63 + (1 : Int))) none)) h_t69)) rfl ?_))
              show wS _ [im ((ls PyData.int) b_), im ((tp PyData.int) tree), im (PyData.int menu2), im ((ls idD) parts70), im (PyData.int x_1), im (PyData.int p_63), im (idD odd67)] _
              refine w_nx ?_
              cases h
              exact ⟨some (PyData.int x_1), some (PyData.int p_63), some (idD odd67), rfl⟩
            · obtain ⟨o73, o74, o75, rfl⟩ := he
              show wS _ [im ((ls PyData.int) b_), im ((tp PyData.int) tree), im (PyData.int menu2), im ((ls idD) parts72), imo o73, imo o74, imo o75] _
              cases h
              refine w_seq ((w_ret (cbX (dX (vI rfl) d0 rfl) rfl) ?_))
              exact rfl
  · refine ((w_if (b := (decide (menu2 < (2 : Int)))) (bang (binX (vI rfl) cI rfl rfl e_qlt)) (fun hc4 => ?_) (fun hc4 => ?_)))
    · rw [if1 hc4] at h
      obtain ⟨t76, h_t76, h⟩ := bnd h
      obtain ⟨is77, h_is77, h⟩ := bnd h
      obtain ⟨t80, h_t80, h⟩ := bnd h
      obtain ⟨parts81, h_parts81, h⟩ := bnd h
      refine (t_setL (f := idD) (v := (List.map PyData.int t80)) (w := parts81) h_parts81 (acAny (f := PyData.int) (l := t80) (lcX (enc := PyData.int) (encB := PyData.int) h_t80 (rng1I (binX cI (binX (cbX (dX (binX (vI rfl) cI rfl rfl (o_ixL (f := PyData.int) (l := b_) h_t76)) d0 rfl) o_int) cI rfl rfl (e_mod (by decide))) rfl rfl e_add) h_is77) rfl (fun x78 _ => ⟨_, rfl, rfl, fun _ hq => (by have hq := Option.some.inj hq; subst hq; rfl), fun _ _ hq => (by obtain ⟨t79, h_t79, hq⟩ := bnd hq; have hq := Option.some.inj hq; subst hq; exact ⟨_, (cbX (dX cI (dX (binX (vI rfl) (binX (cbX (dX (binX (vI rfl) cI rfl rfl (o_ixL (f := PyData.int) (l := b_) h_t79)) d0 rfl) o_int) cI rfl rfl (e_mod (by decide))) rfl rfl e_sub) d0 rfl) rfl) o_max2), rfl, rfl⟩)⟩))) rfl ?_)
      exact ⟨parts81, rfl, h⟩
    · rw [if0 hc4] at h
      refine w_nx ?_
      exact ⟨parts3, rfl, h⟩
theorem k__law_fault {x_ : PyData} {r : (Option (Str × Int))} (h : f_w_fault x_ = some r) : F__law_fault [idD x_] = some (.im ((opt (p2 PyData.str PyData.int)) r)) := by
  unfold f_w_fault at h
  refine t_fnI (enc := (opt (p2 PyData.str PyData.int))) rfl ?_
  show wS _ [im (idD x_), none] _
  obtain ⟨t1, h_t1, h⟩ := bnd h
  refine w_seq ((w_if (b := (!t1)) (tnot (bang (isX (vI rfl) rfl h_t1))) (fun hc2 => ?_) (fun hc2 => ?_)))
  · rw [if1 hc2] at h
    cases h
    refine (w_ret (tupI (aI cI (aI (negI cI) a0)) (Nat.le_of_ble_eq_true rfl)) ?_)
    exact rfl
  · rw [if0 hc2] at h
    refine w_nx ?_
    show wS _ [im (idD x_), none] _
    obtain ⟨t3, h_t3, h⟩ := bnd h
    obtain ⟨is4, h_is4, h⟩ := bnd h
    obtain ⟨l_, hl, h⟩ := bnd h
    refine w_seq ((t_forG PyData.int is4 (fun x_1 (s_ : Unit) => f_w_fault_L1 x_ x_1) (fun (s_ : Unit) e => ∃ (o18 : Option PyData), e = [im (idD x_), imo o18]) (rtI (opt (p2 PyData.str PyData.int))) (rng1I (cbX (dX (vI rfl) d0 rfl) (iD_ok h_t3)) h_is4) ⟨none, rfl⟩ hl (fun x_1 s_ l2_ h e he => ?_) (fun s31 hs e he => ?_) (fun r_ hs r2_ e hr => ?_)))
    · obtain ⟨o18, rfl⟩ := he
      refine ⟨rfl, _, rfl, ?_⟩
      show wS _ [im (idD x_), im (PyData.int x_1)] _
      replace h : f_w_fault_L1 x_ x_1 = some l2_ := h
      unfold f_w_fault_L1 at h
      obtain ⟨t19, h_t19, h⟩ := bnd h
      obtain ⟨t20, h_t20, h⟩ := bnd h
      obtain ⟨t29, h_t29, h⟩ := bnd h
      refine (w_if (b := t29) (torX (tnot (bang (isX (binX (vI rfl) (vI rfl) rfl rfl (vD_ok h_t19)) rfl h_t20))) h_t29 (fun _ _ hq => (by obtain ⟨t21, h_t21, hq⟩ := bnd hq; obtain ⟨t22, h_t22, hq⟩ := bnd hq; obtain ⟨t28, h_t28, hq⟩ := bnd hq; have hq := Option.some.inj hq; subst hq; exact (torX (bang (isX (binX (vI rfl) (vI rfl) rfl rfl (vD_ok h_t21)) rfl h_t22)) h_t28 (fun _ _ hq => (by obtain ⟨t23, h_t23, hq⟩ := bnd hq; obtain ⟨t24, h_t24, hq⟩ := bnd hq; obtain ⟨t27, h_t27, hq⟩ := bnd hq; have hq := Option.some.inj hq; subst hq; exact (torX (bang (binX (binX (vI rfl) (vI rfl) rfl rfl (vD_ok h_t23)) cI rfl rfl (bD_ok h_t24))) h_t27 (fun _ _ hq => (by obtain ⟨t25, h_t25, hq⟩ := bnd hq; obtain ⟨t26, h_t26, hq⟩ := bnd hq; have hq := Option.some.inj hq; subst hq; exact (bang (binX (binX (vI rfl) (vI rfl) rfl rfl (vD_ok h_t25)) (vI rfl) rfl rfl (bD_ok h_t26)))))))))))) (fun hc30 => ?_) (fun hc30 => ?_))
      · rw [if1 hc30] at h
        cases h
        refine (w_ret (tupI (aI cI (aI (vI rfl) a0)) (Nat.le_of_ble_eq_true rfl)) ?_)
        exact rfl
      · rw [if0 hc30] at h
        refine w_nx ?_
        cases h
        exact ⟨some (PyData.int x_1), rfl⟩
    · subst hs
      replace h : _ = some r := h
      dsimp only at h
      obtain ⟨o32, rfl⟩ := he
      show wS _ [im (idD x_), imo o32] _
      cases h
      refine w_seq ((w_ret cI ?_))
      exact rfl
    · subst hs
      cases h
      exact hr
theorem k_is_number {thing : Int} {r : Bool} (h : f_is_number thing = some r) : F_is_number [PyData.int thing] = some (.im (PyData.bool r)) := by
  unfold f_is_number at h
  refine t_fnI (enc := PyData.bool) rfl ?_
  show wS _ [im (PyData.int thing)] _
  obtain ⟨t1, h_t1, h⟩ := bnd h
  cases h
  refine (w_ret (andXt (callI (aI (vI rfl) a0) rfl (k_is_integer h_t1)) (binX (vI rfl) cI rfl rfl e_qge)) ?_)
  exact rfl
theorem k__law_draws {script : (List Int)} {size : Int} {r : (List Int)} (h : f_w_draws script size = some r) : F__law_draws [(ls PyData.int) script, PyData.int size] = some (.ac (r.map PyData.int)) := by
  unfold f_w_draws at h
  refine t_fnA (enc := PyData.int) rfl ?_
  show wS _ [im ((ls PyData.int) script), im (PyData.int size), none, none, none, none, none] _
  obtain ⟨row1, h_row1, h⟩ := bnd h
  refine w_seq ((t_setA (f := PyData.int) (v := []) (w := row1) h_row1 (lstX a0 (Nat.le_of_ble_eq_true rfl)) rfl ?_))
  show wS _ [im ((ls PyData.int) script), im (PyData.int size), ac (row1.map PyData.int), none, none, none, none] _
  obtain ⟨state2, h_state2, h⟩ := bnd h
  refine w_seq ((t_set (f := PyData.int) (v := (0 : Int)) (w := state2) h_state2 cI rfl ?_))
  show wS _ [im ((ls PyData.int) script), im (PyData.int size), ac (row1.map PyData.int), im (PyData.int state2), none, none, none] _
  obtain ⟨s56, hl, h⟩ := bnd h
  refine w_seq ((t_forS PyData.int script (fun x_1 (s_ : (List Int) × Int) => f_w_draws_L1 script size x_1 s_.1 s_.2) (fun (s_ : (List Int) × Int) e => ∃ (o36 : Option PyData) (o37 : Option PyData) (o38 : Option PyData), e = [im ((ls PyData.int) script), im (PyData.int size), ac (s_.1.map PyData.int), im (PyData.int s_.2), imo o36, imo o37, imo o38]) (seqLX (f := PyData.int) (l := script) (vI rfl)) ⟨none, none, none, rfl⟩ hl (fun x_1 s_ s2_ h e he => ?_) (fun e he => ?_)))
  · obtain ⟨o36, o37, o38, rfl⟩ := he
    obtain ⟨row_, state_⟩ := s_
    refine ⟨rfl, _, rfl, ?_⟩
    show wS _ [im ((ls PyData.int) script), im (PyData.int size), ac (row_.map PyData.int), im (PyData.int state_), im (PyData.int x_1), imo o37, imo o38] _
    replace h : f_w_draws_L1 script size x_1 row_ state_ = some s2_ := h
    unfold f_w_draws_L1 at h
    obtain ⟨left39, h_left39, h⟩ := bnd h
    refine w_seq ((t_set (f := PyData.int) (v := x_1) (w := left39) h_left39 (cbX (dX (vI rfl) d0 rfl) o_int) rfl ?_))
    show wS _ [im ((ls PyData.int) script), im (PyData.int size), ac (row_.map PyData.int), im (PyData.int state_), im (PyData.int x_1), imo o37, im (PyData.int left39)] _
    obtain ⟨state40, h_state40, h⟩ := bnd h
    refine w_seq ((t_set (f := PyData.int) (v := ((((state_ * (39373 : Int)) + (left39 % (2147483629 : Int))) + (60013 : Int)) % (2147483647 : Int))) (w := state40) h_state40 (binX (cbX (dX (binX (binX (binX (vI rfl) cI rfl rfl (e_mul (.inr (by decide)))) (binX (cbX (dX (vI rfl) d0 rfl) o_int) cI rfl rfl (e_mod (by decide))) rfl rfl e_add) cI rfl rfl e_add) d0 rfl) o_int) cI rfl rfl (e_mod (by decide))) rfl ?_))
    show wS _ [im ((ls PyData.int) script), im (PyData.int size), ac (row_.map PyData.int), im (PyData.int state40), im (PyData.int x_1), imo o37, im (PyData.int left39)] _
    obtain ⟨t41, h_t41, h⟩ := bnd h
    refine t_join (fun (row_ : (List Int)) e => e = [im ((ls PyData.int) script), im (PyData.int size), ac (row_.map PyData.int), im (PyData.int state40), im (PyData.int x_1), imo o37, im (PyData.int left39)]) (fun (row_ : (List Int)) => f_w_draws_J1 script size state40 left39 row_) (t := s2_) (fun row_ e he h => ?_) ?_
    · subst he
      replace h : f_w_draws_J1 script size state40 left39 row_ = some s2_ := h
      unfold f_w_draws_J1 at h
      show wS _ [im ((ls PyData.int) script), im (PyData.int size), ac (row_.map PyData.int), im (PyData.int state40), im (PyData.int x_1), imo o37, im (PyData.int left39)] _
      obtain ⟨t45, h_t45, h⟩ := bnd h
      refine w_seq ((w_if (b := (decide (t45 ≤ left39))) (bang (binX (vI rfl) (binX cI cI rfl rfl (o_pow h_t45)) rfl rfl e_qge)) (fun hc46 => ?_) (fun hc46 => ?_)))
      · rw [if1 hc46] at h
        obtain ⟨is47, h_is47, h⟩ := bnd h
        obtain ⟨s52, hl, h⟩ := bnd h
        refine (t_forS PyData.int is47 (fun x_2 (s_ : (List Int) × Int) => f_w_draws_L2 script size state40 x_2 s_.1 s_.2) (fun (s_ : (List Int) × Int) e => ∃ (o48 : Option PyData), e = [im ((ls PyData.int) script), im (PyData.int size), ac (s_.1.map PyData.int), im (PyData.int state40), im (PyData.int x_1), imo o48, im (PyData.int s_.2)]) (rng1I cI h_is47) ⟨o37, rfl⟩ hl (fun x_2 s_ s2_ h e he => ?_) (fun e he => ?_))
        · obtain ⟨o48, rfl⟩ := he
          obtain ⟨row_, left_⟩ := s_
          refine ⟨rfl, _, rfl, ?_⟩
          show wS _ [im ((ls PyData.int) script), im (PyData.int size), ac (row_.map PyData.int), im (PyData.int state40), im (PyData.int x_1), im (PyData.int x_2), im (PyData.int left_)] _
          replace h : f_w_draws_L2 script size state40 x_2 row_ left_ = some s2_ := h
          unfold f_w_draws_L2 at h
          refine (w_if (b := ((decide ((0 : Int) < left_)) && (decide ((row_.length : Int) < size)))) (tandXt (bang (binX (vI rfl) cI rfl rfl e_qgt)) (bang (binX (cbX (dX (vB rfl) d0 rfl) (o_lenL (f := PyData.int) (l := row_))) (vI rfl) rfl rfl e_qlt))) (fun hc49 => ?_) (fun hc49 => ?_))
          · rw [if1 hc49] at h
            obtain ⟨row50, h_row50, h⟩ := bnd h
            refine w_seq ((t_app (f := PyData.int) (l := row_) (a := (left_ % (9949 : Int))) h_row50 ⟨_, (binX (cbX (dX (vI rfl) d0 rfl) o_int) cI rfl rfl (e_mod (by decide))), rfl⟩ rfl rfl ?_))
            show wS _ [im ((ls PyData.int) script), im (PyData.int size), ac (row50.map PyData.int), im (PyData.int state40), im (PyData.int x_1), im (PyData.int x_2), im (PyData.int left_)] _
            obtain ⟨left51, h_left51, h⟩ := bnd h
            refine w_seq ((t_set (f := PyData.int) (v := (left_ / (9949 : Int))) (w := left51) h_left51 (binX (vI rfl) cI rfl rfl (e_div (by decide) (by decide))) rfl ?_))
            show wS _ [im ((ls PyData.int) script), im (PyData.int size), ac (row50.map PyData.int), im (PyData.int state40), im (PyData.int x_1), im (PyData.int x_2), im (PyData.int left51)] _
            refine w_nx ?_
            cases h
            exact ⟨some (PyData.int x_2), rfl⟩
          · rw [if0 hc49] at h
            refine w_nx ?_
            cases h
            exact ⟨some (PyData.int x_2), rfl⟩
        · obtain ⟨o53, rfl⟩ := he
          show wS _ [im ((ls PyData.int) script), im (PyData.int size), ac (s52.1.map PyData.int), im (PyData.int state40), im (PyData.int x_1), imo o53, im (PyData.int s52.2)] _
          refine w_nx ?_
          cases h
          exact ⟨some (PyData.int x_1), o53, some (PyData.int s52.2), rfl⟩
      · rw [if0 hc46] at h
        refine w_nx ?_
        show wS _ [im ((ls PyData.int) script), im (PyData.int size), ac (row_.map PyData.int), im (PyData.int state40), im (PyData.int x_1), imo o37, im (PyData.int left39)] _
        refine w_nx ?_
        cases h
        exact ⟨some (PyData.int x_1), o37, some (PyData.int left39), rfl⟩
    · refine ((w_if (b := ((decide (left39 < t41)) && (decide ((row_.length : Int) < size)))) (tandXt (bang (binX (vI rfl) (binX cI cI rfl rfl (o_pow h_t41)) rfl rfl e_qlt)) (bang (binX (cbX (dX (vB rfl) d0 rfl) (o_lenL (f := PyData.int) (l := row_))) (vI rfl) rfl rfl e_qlt))) (fun hc42 => ?_) (fun hc42 => ?_)))
      · rw [if1 hc42] at h
        obtain ⟨t54, h_t54, h⟩ := bnd h
        obtain ⟨row55, h_row55, h⟩ := bnd h
        refine (t_app (f := PyData.int) (l := row_) (a := t54) h_row55 ⟨_, (callI (aI (vI rfl) a0) rfl (k__law_mixed h_t54)), rfl⟩ rfl rfl ?_)
        exact ⟨row55, rfl, h⟩
      · rw [if0 hc42] at h
        refine w_nx ?_
        exact ⟨row_, rfl, h⟩
  · obtain ⟨o57, o58, o59, rfl⟩ := he
    show wS _ [im ((ls PyData.int) script), im (PyData.int size), ac (s56.1.map PyData.int), im (PyData.int s56.2), imo o57, imo o58, imo o59] _
    obtain ⟨is60, h_is60, h⟩ := bnd h
    obtain ⟨s71, hl, h⟩ := bnd h
    refine w_seq ((t_forS PyData.int is60 (fun x_3 (s_ : (List Int) × Int) => f_w_draws_L3 size x_3 s_.1 s_.2) (fun (s_ : (List Int) × Int) e => ∃ (o66 : Option PyData), e = [im ((ls PyData.int) script), im (PyData.int size), ac (s_.1.map PyData.int), im (PyData.int s_.2), imo o57, imo o66, imo o59]) (rng1I (vI rfl) h_is60) ⟨o58, rfl⟩ hl (fun x_3 s_ s2_ h e he => ?_) (fun e he => ?_)))
    · obtain ⟨o66, rfl⟩ := he
      obtain ⟨row_, state_⟩ := s_
      refine ⟨rfl, _, rfl, ?_⟩
      show wS _ [im ((ls PyData.int) script), im (PyData.int size), ac (row_.map PyData.int), im (PyData.int state_), imo o57, im (PyData.int x_3), imo o59] _
      replace h : f_w_draws_L3 size x_3 row_ state_ = some s2_ := h
      unfold f_w_draws_L3 at h
      refine (w_if (b := (decide ((row_.length : Int) < size))) (bang (binX (cbX (dX (vB rfl) d0 rfl) (o_lenL (f := PyData.int) (l := row_))) (vI rfl) rfl rfl e_qlt)) (fun hc67 => ?_) (fun hc67 => ?_))
      · rw [if1 hc67] at h
        obtain ⟨state68, h_state68, h⟩ := bnd h
        refine w_seq ((t_set (f := PyData.int) (v := ((state_ * (39373 : Int)) % (2147483647 : Int))) (w := state68) h_state68 (binX (cbX (dX (binX (vI rfl) cI rfl rfl (e_mul (.inr (by decide)))) d0 rfl) o_int) cI rfl rfl (e_mod (by decide))) rfl ?_))
        show wS _ [im ((ls PyData.int) script), im (PyData.int size), ac (row_.map PyData.int), im (PyData.int state68), imo o57, im (PyData.int x_3), imo o59] _
        obtain ⟨t69, h_t69, h⟩ := bnd h
        obtain ⟨row70, h_row70, h⟩ := bnd h
        refine w_seq ((t_app (f := PyData.int) (l := row_) (a := t69) h_row70 ⟨_, (callI (aI (vI rfl) a0) rfl (k__law_mixed h_t69)), rfl⟩ rfl rfl ?_))
        show wS _ [im ((ls PyData.int) script), im (PyData.int size), ac (row70.map PyData.int), im (PyData.int state68), imo o57, im (PyData.int x_3), imo o59] _
        refine w_nx ?_
        cases h
        exact ⟨some (PyData.int x_3), rfl⟩
      · rw [if0 hc67] at h
        refine w_nx ?_
        cases h
        exact ⟨some (PyData.int x_3), rfl⟩
    · obtain ⟨o72, rfl⟩ := he
      show wS _ [im ((ls PyData.int) script), im (PyData.int size), ac (s71.1.map PyData.int), im (PyData.int s71.2), imo o57, imo o72, imo o59] _
      cases h
      refine w_seq ((w_ret (vB rfl) ?_))
      exact rfl
theorem k_check_version {history : (List Int)} {name : Str} {thing : Int} {least : Int} {r : Unit} (h : f_check_version history name thing least = some r) : F_check_version [(tp PyData.int) history, PyData.str name, PyData.int thing, PyData.int least] = some (.im (nn r)) := by
  unfold f_check_version at h
  refine t_fnI (enc := nn) rfl ?_
  show wS _ [im ((tp PyData.int) history), im (PyData.str name), im (PyData.int thing), im (PyData.int least)] _
  obtain ⟨t1, h_t1, h⟩ := bnd h
  refine (w_if (b := ((!t1) || (!(decide (least ≤ thing) && decide (thing ≤ (history.length : Int)))))) (torXt (tnot (bang (callI (aI (vI rfl) a0) rfl (k_is_number h_t1)))) (tnot (bang (chX (vI rfl) (vI rfl) (cbX (dX (vI rfl) d0 rfl) (o_lenT (f := PyData.int) (l := history))) rfl rfl rfl e_qle e_qle)))) (fun hc2 => ?_) (fun hc2 => ?_))
  · rw [if1 hc2] at h
    cases h
  · rw [if0 hc2] at h
    refine w_nx ?_
    cases h
    exact rfl
theorem k_parent_of {history : (List Int)} {version : Int} {r : Int} (h : f_parent_of history version = some r) : F_parent_of [(tp PyData.int) history, PyData.int version] = some (.im (PyData.int r)) := by
  unfold f_parent_of at h
  refine t_fnI (enc := PyData.int) rfl ?_
  show wS _ [im ((tp PyData.int) history), im (PyData.int version)] _
  obtain ⟨t1, h_t1, h⟩ := bnd h
  refine w_seq ((w_drop (callI (aI (vI rfl) (aI cI (aI (vI rfl) (aI cI a0)))) rfl (k_check_version h_t1)) ?_))
  show wS _ [im ((tp PyData.int) history), im (PyData.int version)] _
  obtain ⟨t2, h_t2, h⟩ := bnd h
  cases h
  refine w_seq ((w_ret (binX (vI rfl) (binX (vI rfl) cI rfl rfl e_sub) rfl rfl (o_ixT (f := PyData.int) (l := history) h_t2)) ?_))
  exact rfl
theorem k_elders_of {history : (List Int)} {version : Int} {r : (List Int)} (h : f_elders_of history version = some r) : F_elders_of [(tp PyData.int) history, PyData.int version] = some (.im ((tp PyData.int) r)) := by
  unfold f_elders_of at h
  refine t_fnI (enc := (tp PyData.int)) rfl ?_
  show wS _ [im ((tp PyData.int) history), im (PyData.int version)] _
  obtain ⟨t1, h_t1, h⟩ := bnd h
  refine w_seq ((w_drop (callI (aI (vI rfl) (aI cI (aI (vI rfl) a0))) rfl (k_check_version h_t1)) ?_))
  show wS _ [im ((tp PyData.int) history), im (PyData.int version)] _
  obtain ⟨t2, h_t2, h⟩ := bnd h
  cases h
  refine w_seq ((w_ret (cbX (dX (callA (aI (vI rfl) (aI (vI rfl) a0)) rfl (k__upward h_t2)) d0 rfl) rfl) ?_))
  exact rfl
theorem k_path_of {history : (List Int)} {version : Int} {r : (List Int)} (h : f_path_of history version = some r) : F_path_of [(tp PyData.int) history, PyData.int version] = some (.im ((tp PyData.int) r)) := by
  unfold f_path_of at h
  refine t_fnI (enc := (tp PyData.int)) rfl ?_
  show wS _ [im ((tp PyData.int) history), im (PyData.int version), none, none] _
  obtain ⟨t1, h_t1, h⟩ := bnd h
  refine w_seq ((w_drop (callI (aI (vI rfl) (aI cI (aI (vI rfl) a0))) rfl (k_check_version h_t1)) ?_))
  show wS _ [im ((tp PyData.int) history), im (PyData.int version), none, none] _
  obtain ⟨t2, h_t2, h⟩ := bnd h
  obtain ⟨found4, h_t3, h⟩ := bnd h
  refine w_seq ((t_setL (f := PyData.int) (v := found4) (w := found4) rfl (binX (lstX (aI (vI rfl) a0) (Nat.le_of_ble_eq_true rfl)) (callA (aI (vI rfl) (aI (vI rfl) a0)) rfl (k__upward h_t2)) rfl rfl (o_catL (f := PyData.int) (l := [version]) (m := t2) h_t3)) rfl ?_))
  show wS _ [im ((tp PyData.int) history), im (PyData.int version), im ((ls PyData.int) found4), none] _
  obtain ⟨t6, h_t6, h⟩ := bnd h
  cases h
  refine w_seq ((w_ret (cbX (dX (lcX (enc := PyData.int) (encB := PyData.int) h_t6 (revI (f := PyData.int) (l := found4) (seqLX (f := PyData.int) (l := found4) (vI rfl))) rfl (fun x5 _ => ⟨_, rfl, rfl, fun _ hq => (by have hq := Option.some.inj hq; subst hq; exact (bang (binX (vI rfl) cI rfl rfl e_qgt))), fun _ _ hq => (by have hq := Option.some.inj hq; subst hq; exact ⟨_, (vI rfl), rfl, rfl⟩)⟩)) d0 rfl) rfl) ?_))
  exact rfl
theorem k_is_elder {history : (List Int)} {one : Int} {other : Int} {r : Bool} (h : f_is_elder history one other = some r) : F_is_elder [(tp PyData.int) history, PyData.int one, PyData.int other] = some (.im (PyData.bool r)) := by
  unfold f_is_elder at h
  refine t_fnI (enc := PyData.bool) rfl ?_
  show wS _ [im ((tp PyData.int) history), im (PyData.int one), im (PyData.int other)] _
  obtain ⟨t1, h_t1, h⟩ := bnd h
  refine w_seq ((w_drop (callI (aI (vI rfl) (aI cI (aI (vI rfl) a0))) rfl (k_check_version h_t1)) ?_))
  show wS _ [im ((tp PyData.int) history), im (PyData.int one), im (PyData.int other)] _
  obtain ⟨t2, h_t2, h⟩ := bnd h
  refine w_seq ((w_drop (callI (aI (vI rfl) (aI cI (aI (vI rfl) a0))) rfl (k_check_version h_t2)) ?_))
  show wS _ [im ((tp PyData.int) history), im (PyData.int one), im (PyData.int other)] _
  obtain ⟨t3, h_t3, h⟩ := bnd h
  cases h
  refine w_seq ((w_ret (binX (vI rfl) (callA (aI (vI rfl) (aI (vI rfl) a0)) rfl (k__upward h_t3)) rfl rfl (o_inL (x := one) (l := t3))) ?_))
  exact rfl
theorem k_meet_of {history : (List Int)} {one : Int} {other : Int} {r : Int} (h : f_meet_of history one other = some r) : F_meet_of [(tp PyData.int) history, PyData.int one, PyData.int other] = some (.im (PyData.int r)) := by
  unfold f_meet_of at h
  refine t_fnI (enc := PyData.int) rfl ?_
  show wS _ [im ((tp PyData.int) history), im (PyData.int one), im (PyData.int other)] _
  obtain ⟨t1, h_t1, h⟩ := bnd h
  refine w_seq ((w_drop (callI (aI (vI rfl) (aI cI (aI (vI rfl) a0))) rfl (k_check_version h_t1)) ?_))
  show wS _ [im ((tp PyData.int) history), im (PyData.int one), im (PyData.int other)] _
  obtain ⟨t2, h_t2, h⟩ := bnd h
  refine w_seq ((w_drop (callI (aI (vI rfl) (aI cI (aI (vI rfl) a0))) rfl (k_check_version h_t2)) ?_))
  show wS _ [im ((tp PyData.int) history), im (PyData.int one), im (PyData.int other)] _
  obtain ⟨s13, hl, h⟩ := bnd h
  refine w_seq ((t_whS (fun (s_ : Int × Int) => f_meet_of_L1c history s_.1 s_.2) (fun (s_ : Int × Int) => f_meet_of_L1 history s_.1 s_.2) (fun (s_ : Int × Int) e => e = [im ((tp PyData.int) history), im (PyData.int s_.1), im (PyData.int s_.2)]) (N := 3000) rfl rfl hl (fun s_ b_ h e he => ?_) (fun s_ s2_ h e he => ?_) (fun e he => ?_)))
  · subst he
    obtain ⟨one_, other_⟩ := s_
    replace h : f_meet_of_L1c history one_ other_ = some b_ := h
    unfold f_meet_of_L1c at h
    cases h
    exact (bang (binX (vI rfl) (vI rfl) rfl rfl e_ne))
  · subst he
    obtain ⟨one_, other_⟩ := s_
    show wS _ [im ((tp PyData.int) history), im (PyData.int one_), im (PyData.int other_)] _
    replace h : f_meet_of_L1 history one_ other_ = some s2_ := h
    unfold f_meet_of_L1 at h
    refine (w_if (b := (decide (other_ < one_))) (bang (binX (vI rfl) (vI rfl) rfl rfl e_qgt)) (fun hc8 => ?_) (fun hc8 => ?_))
    · rw [if1 hc8] at h
      obtain ⟨one10, h_t9, h⟩ := bnd h
      refine (t_set (f := PyData.int) (v := one10) (w := one10) rfl (binX (vI rfl) (binX (vI rfl) cI rfl rfl e_sub) rfl rfl (o_ixT (f := PyData.int) (l := history) h_t9)) rfl ?_)
      cases h
      exact rfl
    · rw [if0 hc8] at h
      obtain ⟨other12, h_t11, h⟩ := bnd h
      refine (t_set (f := PyData.int) (v := other12) (w := other12) rfl (binX (vI rfl) (binX (vI rfl) cI rfl rfl e_sub) rfl rfl (o_ixT (f := PyData.int) (l := history) h_t11)) rfl ?_)
      cases h
      exact rfl
  · subst he
    show wS _ [im ((tp PyData.int) history), im (PyData.int s13.1), im (PyData.int s13.2)] _
    cases h
    refine w_seq ((w_ret (vI rfl) ?_))
    exact rfl
theorem k_depth_of {history : (List Int)} {version : Int} {r : Int} (h : f_depth_of history version = some r) : F_depth_of [(tp PyData.int) history, PyData.int version] = some (.im (PyData.int r)) := by
  unfold f_depth_of at h
  refine t_fnI (enc := PyData.int) rfl ?_
  show wS _ [im ((tp PyData.int) history), im (PyData.int version)] _
  obtain ⟨t1, h_t1, h⟩ := bnd h
  refine w_seq ((w_drop (callI (aI (vI rfl) (aI cI (aI (vI rfl) a0))) rfl (k_check_version h_t1)) ?_))
  show wS _ [im ((tp PyData.int) history), im (PyData.int version)] _
  obtain ⟨t2, h_t2, h⟩ := bnd h
  cases h
  refine w_seq ((w_ret (cbX (dX (callA (aI (vI rfl) (aI (vI rfl) a0)) rfl (k__upward h_t2)) d0 rfl) (o_lenL (f := PyData.int) (l := t2))) ?_))
  exact rfl
theorem k_children_of {history : (List Int)} {version : Int} {r : (List Int)} (h : f_children_of history version = some r) : F_children_of [(tp PyData.int) history, PyData.int version] = some (.im ((tp PyData.int) r)) := by
  unfold f_children_of at h
  refine t_fnI (enc := (tp PyData.int)) rfl ?_
  show wS _ [im ((tp PyData.int) history), im (PyData.int version), none, none] _
  obtain ⟨t1, h_t1, h⟩ := bnd h
  refine w_seq ((w_drop (callI (aI (vI rfl) (aI cI (aI (vI rfl) a0))) rfl (k_check_version h_t1)) ?_))
  show wS _ [im ((tp PyData.int) history), im (PyData.int version), none, none] _
  obtain ⟨t3, h_t3, h⟩ := bnd h
  cases h
  refine w_seq ((w_ret (cbX (dX (lcX (enc := (p2 PyData.int PyData.int)) (encB := PyData.int) h_t3 (enumI (f := PyData.int) (l := history) (seqTX (f := PyData.int) (l := history) (vI rfl))) rfl (fun x2 _ => ⟨_, rfl, rfl, fun _ hq => (by have hq := Option.some.inj hq; subst hq; exact (bang (binX (vI rfl) (vI rfl) rfl rfl e_eq))), fun _ _ hq => (by have hq := Option.some.inj hq; subst hq; exact ⟨_, (binX (vI rfl) cI rfl rfl e_add), rfl, rfl⟩)⟩)) d0 rfl) rfl) ?_))
  exact rfl
theorem k_branch_of {history : (List Int)} {version : Int} {r : (List Int)} (h : f_branch_of history version = some r) : F_branch_of [(tp PyData.int) history, PyData.int version] = some (.im ((tp PyData.int) r)) := by
  unfold f_branch_of at h
  refine t_fnI (enc := (tp PyData.int)) rfl ?_
  show wS _ [im ((tp PyData.int) history), im (PyData.int version), none, none, none, none, none] _
  obtain ⟨t1, h_t1, h⟩ := bnd h
  refine w_seq ((w_drop (callI (aI (vI rfl) (aI cI (aI (vI rfl) a0))) rfl (k_check_version h_t1)) ?_))
  show wS _ [im ((tp PyData.int) history), im (PyData.int version), none, none, none, none, none] _
  obtain ⟨inside3, h_t2, h⟩ := bnd h
  refine w_seq ((t_setA (f := PyData.bool) (v := inside3) (w := inside3) rfl (repX (f := PyData.bool) (ds := [false]) (aI cI a0) (binX (cbX (dX (vI rfl) d0 rfl) (o_lenT (f := PyData.int) (l := history))) cI rfl rfl e_add) h_t2) rfl ?_))
  show wS _ [im ((tp PyData.int) history), im (PyData.int version), ac (inside3.map PyData.bool), none, none, none, none] _
  obtain ⟨inside4, h_inside4, h⟩ := bnd h
  refine w_seq ((t_put (f := PyData.bool) (l := inside3) h_inside4 ⟨_, cI, rfl⟩ rfl (vI rfl) rfl ?_))
  show wS _ [im ((tp PyData.int) history), im (PyData.int version), ac (inside4.map PyData.bool), none, none, none, none] _
  obtain ⟨inside16, hl, h⟩ := bnd h
  refine w_seq ((t_forS (p2 PyData.int PyData.int) (enumL history) (fun x_1 (inside_ : (List Bool)) => f_branch_of_L1 history x_1 inside_) (fun (inside_ : (List Bool)) e => ∃ (o10 : Option PyData) (o11 : Option PyData), e = [im ((tp PyData.int) history), im (PyData.int version), ac (inside_.map PyData.bool), imo o10, imo o11, none, none]) (enumI (f := PyData.int) (l := history) (seqTX (f := PyData.int) (l := history) (vI rfl))) ⟨none, none, rfl⟩ hl (fun x_1 inside_ s2_ h e he => ?_) (fun e he => ?_)))
  · obtain ⟨o10, o11, rfl⟩ := he
    refine ⟨rfl, _, rfl, ?_⟩
    show wS _ [im ((tp PyData.int) history), im (PyData.int version), ac (inside_.map PyData.bool), im (PyData.int x_1.1), im (PyData.int x_1.2), none, none] _
    replace h : f_branch_of_L1 history x_1 inside_ = some s2_ := h
    unfold f_branch_of_L1 at h
    obtain ⟨t12, h_t12, h⟩ := bnd h
    refine (w_if (b := t12) (bang (binX (vB rfl) (vI rfl) rfl rfl (o_ixL (f := PyData.bool) (l := inside_) h_t12))) (fun hc13 => ?_) (fun hc13 => ?_))
    · rw [if1 hc13] at h
      obtain ⟨inside14, h_inside14, h⟩ := bnd h
      refine (t_put (f := PyData.bool) (l := inside_) h_inside14 ⟨_, cI, rfl⟩ rfl (binX (vI rfl) cI rfl rfl e_add) rfl ?_)
      cases h
      exact ⟨some (PyData.int x_1.1), some (PyData.int x_1.2), rfl⟩
    · rw [if0 hc13] at h
      refine w_nx ?_
      cases h
      exact ⟨some (PyData.int x_1.1), some (PyData.int x_1.2), rfl⟩
  · obtain ⟨o17, o18, rfl⟩ := he
    show wS _ [im ((tp PyData.int) history), im (PyData.int version), ac (inside16.map PyData.bool), imo o17, imo o18, none, none] _
    obtain ⟨t20, h_t20, h⟩ := bnd h
    cases h
    refine w_seq ((w_fz (w_ret (cbX (dX (lcX (enc := (p2 PyData.int PyData.bool)) (encB := PyData.int) h_t20 (enumI (f := PyData.bool) (l := inside16) (seqLX (f := PyData.bool) (l := inside16) (vI rfl))) rfl (fun x19 _ => ⟨_, rfl, rfl, fun _ hq => (by have hq := Option.some.inj hq; subst hq; exact (bang (vI rfl))), fun _ _ hq => (by have hq := Option.some.inj hq; subst hq; exact ⟨_, (vI rfl), rfl, rfl⟩)⟩)) d0 rfl) rfl) ?_)))
    exact rfl
theorem k__law_door {which : Int} {tree : (List Int)} {x_ : PyData} {v_ : Int} {r : PyData} (h : f_w_door which tree x_ v_ = some r) : F__law_door [PyData.int which, (tp PyData.int) tree, idD x_, PyData.int v_] = some (.im (idD r)) := chI_ok h
theorem kB__law_same {N : Nat} {rec_ : PyData → PyData → Option Bool} (hrec : ∀ {got : PyData} {due : PyData} {r : Bool}, rec_ got due = some r → R__law_same N [idD got, idD due] = some (.im (PyData.bool r))) {got : PyData} {due : PyData} {r : Bool} (h : f_w_same_B rec_ got due = some r) : R__law_same (N + 1) [idD got, idD due] = some (.im (PyData.bool r)) := by
  unfold f_w_same_B at h
  refine t_fnI (enc := PyData.bool) rfl ?_
  show wS _ [im (idD got), im (idD due), none] _
  obtain ⟨t1, h_t1, h⟩ := bnd h
  refine w_seq ((w_if (b := t1) (bang (isX (vI rfl) rfl h_t1)) (fun hc2 => ?_) (fun hc2 => ?_)))
  · rw [if1 hc2] at h
    obtain ⟨t3, h_t3, h⟩ := bnd h
    obtain ⟨t6, h_t6, h⟩ := bnd h
    refine w_seq ((w_if (b := t6) (torX (tnot (bang (isX (vI rfl) rfl h_t3))) h_t6 (fun _ _ hq => (by obtain ⟨t4, h_t4, hq⟩ := bnd hq; obtain ⟨t5, h_t5, hq⟩ := bnd hq; have hq := Option.some.inj hq; subst hq; exact (bang (binX (cbX (dX (vI rfl) d0 rfl) (iD_ok h_t4)) (cbX (dX (vI rfl) d0 rfl) (iD_ok h_t5)) rfl rfl e_ne))))) (fun hc7 => ?_) (fun hc7 => ?_)))
    · rw [if1 hc7] at h
      cases h
      refine (w_ret cI ?_)
      exact rfl
    · rw [if0 hc7] at h
      refine w_nx ?_
      show wS _ [im (idD got), im (idD due), none] _
      obtain ⟨t8, h_t8, h⟩ := bnd h
      obtain ⟨is9, h_is9, h⟩ := bnd h
      obtain ⟨t14, h_t14, h⟩ := bnd h
      cases h
      refine w_seq ((w_ret (cbX (dX (lcX (enc := PyData.int) (encB := PyData.bool) h_t14 (rng1I (cbX (dX (vI rfl) d0 rfl) (iD_ok h_t8)) h_is9) rfl (fun x10 _ => ⟨_, rfl, rfl, fun _ hq => (by have hq := Option.some.inj hq; subst hq; rfl), fun _ _ hq => (by obtain ⟨t11, h_t11, hq⟩ := bnd hq; obtain ⟨t12, h_t12, hq⟩ := bnd hq; obtain ⟨t13, h_t13, hq⟩ := bnd hq; have hq := Option.some.inj hq; subst hq; exact ⟨_, (callI (aI (binX (vI rfl) (vI rfl) rfl rfl (vD_ok h_t11)) (aI (binX (vI rfl) (vI rfl) rfl rfl (vD_ok h_t12)) a0)) rfl (hrec h_t13)), rfl, rfl⟩)⟩)) d0 rfl) (o_allL (l := t14))) ?_))
      exact rfl
  · rw [if0 hc2] at h
    refine w_nx ?_
    show wS _ [im (idD got), im (idD due), none] _
    obtain ⟨t15, h_t15, h⟩ := bnd h
    refine w_seq ((w_if (b := t15) (bang (isX (vI rfl) rfl h_t15)) (fun hc16 => ?_) (fun hc16 => ?_)))
    · rw [if1 hc16] at h
      obtain ⟨t17, h_t17, h⟩ := bnd h
      obtain ⟨t19, h_t19, h⟩ := bnd h
      cases h
      refine (w_ret (andX (isX (vI rfl) rfl h_t17) h_t19 (fun _ _ hq => (by obtain ⟨t18, h_t18, hq⟩ := bnd hq; have hq := Option.some.inj hq; subst hq; exact (binX (vI rfl) (vI rfl) rfl rfl (bD_ok h_t18))))) ?_)
      exact rfl
    · rw [if0 hc16] at h
      refine w_nx ?_
      show wS _ [im (idD got), im (idD due), none] _
      obtain ⟨t20, h_t20, h⟩ := bnd h
      obtain ⟨t23, h_t23, h⟩ := bnd h
      refine w_seq ((w_if (b := t23) (torX (bang (binX (vI rfl) cI rfl rfl (bD_ok h_t20))) h_t23 (fun _ _ hq => (by obtain ⟨t21, h_t21, hq⟩ := bnd hq; obtain ⟨t22, h_t22, hq⟩ := bnd hq; have hq := Option.some.inj hq; subst hq; exact (bang (binX (isX (vI rfl) rfl h_t21) (isX (vI rfl) rfl h_t22) rfl rfl e_neB))))) (fun hc24 => ?_) (fun hc24 => ?_)))
      · rw [if1 hc24] at h
        obtain ⟨t25, h_t25, h⟩ := bnd h
        obtain ⟨t27, h_t27, h⟩ := bnd h
        cases h
        refine (w_ret (andX (binX (vI rfl) cI rfl rfl (bD_ok h_t25)) h_t27 (fun _ _ hq => (by obtain ⟨t26, h_t26, hq⟩ := bnd hq; have hq := Option.some.inj hq; subst hq; exact (binX (vI rfl) cI rfl rfl (bD_ok h_t26))))) ?_)
        exact rfl
      · rw [if0 hc24] at h
        refine w_nx ?_
        show wS _ [im (idD got), im (idD due), none] _
        obtain ⟨t28, h_t28, h⟩ := bnd h
        obtain ⟨t30, h_t30, h⟩ := bnd h
        cases h
        refine w_seq ((w_ret (andX (isX (vI rfl) rfl h_t28) h_t30 (fun _ _ hq => (by obtain ⟨t29, h_t29, hq⟩ := bnd hq; have hq := Option.some.inj hq; subst hq; exact (binX (vI rfl) (vI rfl) rfl rfl (bD_ok h_t29))))) ?_))
        exact rfl
theorem kR__law_same : ∀ (N : Nat) {got : PyData} {due : PyData} {r : Bool}, f_w_same_R N got due = some r → R__law_same N [idD got, idD due] = some (.im (PyData.bool r))
  | 0, _, _, _, h => by cases h
  | N + 1, _, _, _, h => kB__law_same (fun h => kR__law_same N h) h
theorem k__law_same {got : PyData} {due : PyData} {r : Bool} (h : f_w_same got due = some r) : F__law_same [idD got, idD due] = some (.im (PyData.bool r)) := kR__law_same 8 h
theorem k__law_judged {x_ : PyData} {r : Bool} (h : f_w_judged x_ = some r) : F__law_judged [idD x_] = some (.im (PyData.bool r)) := chI_ok h
theorem k__law_refusals {tree : (List Int)} {x_ : PyData} {v_ : Int} {r : Bool} (h : f_w_refusals tree x_ v_ = some r) : F__law_refusals [(tp PyData.int) tree, idD x_, PyData.int v_] = some (.im (PyData.bool r)) := by
  unfold f_w_refusals at h
  refine t_fnI (enc := PyData.bool) rfl ?_
  show wS _ [im ((tp PyData.int) tree), im (idD x_), im (PyData.int v_), none, none] _
  obtain ⟨t1, h_t1, h⟩ := bnd h
  obtain ⟨names3, h_t2, h⟩ := bnd h
  refine w_seq ((t_set (f := (tp PyData.str)) (v := names3) (w := names3) rfl (binX (binX (tupI (aI cI a0) (Nat.le_of_ble_eq_true rfl)) cI rfl rfl (o_repT (f := PyData.str) (l := [("version" : Str)]) h_t1)) (tupI (aI cI (aI cI (aI cI (aI cI (aI cI (aI cI a0)))))) (Nat.le_of_ble_eq_true rfl)) rfl rfl (o_catT (f := PyData.str) (l := t1) (m := [("one" : Str), ("other" : Str), ("one" : Str), ("other" : Str), ("one" : Str), ("one" : Str)]) h_t2)) rfl ?_))
  show wS _ [im ((tp PyData.int) tree), im (idD x_), im (PyData.int v_), im ((tp PyData.str) names3), none] _
  obtain ⟨is4, h_is4, h⟩ := bnd h
  obtain ⟨l_, hl, h⟩ := bnd h
  refine w_seq ((t_forG PyData.int is4 (fun x_1 (s_ : Unit) => f_w_refusals_L1 tree x_ v_ names3 x_1) (fun (s_ : Unit) e => ∃ (o14 : Option PyData), e = [im ((tp PyData.int) tree), im (idD x_), im (PyData.int v_), im ((tp PyData.str) names3), imo o14]) (rtI PyData.bool) (rng1I cI h_is4) ⟨none, rfl⟩ hl (fun x_1 s_ l2_ h e he => ?_) (fun s23 hs e he => ?_) (fun r_ hs r2_ e hr => ?_)))
  · obtain ⟨o14, rfl⟩ := he
    refine ⟨rfl, _, rfl, ?_⟩
    show wS _ [im ((tp PyData.int) tree), im (idD x_), im (PyData.int v_), im ((tp PyData.str) names3), im (PyData.int x_1)] _
    replace h : f_w_refusals_L1 tree x_ v_ names3 x_1 = some l2_ := h
    unfold f_w_refusals_L1 at h
    obtain ⟨t15, h_t15, h⟩ := bnd h
    obtain ⟨t16, h_t16, h⟩ := bnd h
    obtain ⟨t17, h_t17, h⟩ := bnd h
    refine w_seq ((w_if (b := (!t17)) (tnot (bang (callI (aI (callI (aI (vI rfl) (aI (vI rfl) (aI (vI rfl) (aI (vI rfl) a0)))) rfl (k__law_door h_t15)) (aI (tupI (aI (binX (vI rfl) (vI rfl) rfl rfl (o_ixT (f := PyData.str) (l := names3) h_t16)) (aI (negI cI) (aI cI (aI cI a0)))) (Nat.le_of_ble_eq_true rfl)) a0)) rfl (k__law_same h_t17)))) (fun hc18 => ?_) (fun hc18 => ?_)))
    · rw [if1 hc18] at h
      cases h
      refine (w_ret cI ?_)
      exact rfl
    · rw [if0 hc18] at h
      refine w_nx ?_
      show wS _ [im ((tp PyData.int) tree), im (idD x_), im (PyData.int v_), im ((tp PyData.str) names3), im (PyData.int x_1)] _
      obtain ⟨t21, h_t21, h⟩ := bnd h
      refine w_seq ((w_if (b := t21) (tandX (bang (binX (vI rfl) cI rfl rfl e_qgt)) h_t21 (fun _ _ hq => (by obtain ⟨t19, h_t19, hq⟩ := bnd hq; obtain ⟨t20, h_t20, hq⟩ := bnd hq; have hq := Option.some.inj hq; subst hq; exact (tnot (bang (callI (aI (callI (aI (vI rfl) (aI (vI rfl) (aI (vI rfl) (aI (vI rfl) a0)))) rfl (k__law_door h_t19)) (aI (tupI (aI cI a0) (Nat.le_of_ble_eq_true rfl)) a0)) rfl (k__law_same h_t20))))))) (fun hc22 => ?_) (fun hc22 => ?_)))
      · rw [if1 hc22] at h
        cases h
        refine (w_ret cI ?_)
        exact rfl
      · rw [if0 hc22] at h
        refine w_nx ?_
        show wS _ [im ((tp PyData.int) tree), im (idD x_), im (PyData.int v_), im ((tp PyData.str) names3), im (PyData.int x_1)] _
        refine w_nx ?_
        cases h
        exact ⟨some (PyData.int x_1), rfl⟩
  · subst hs
    replace h : _ = some r := h
    dsimp only at h
    obtain ⟨o24, rfl⟩ := he
    show wS _ [im ((tp PyData.int) tree), im (idD x_), im (PyData.int v_), im ((tp PyData.str) names3), imo o24] _
    obtain ⟨t25, h_t25, h⟩ := bnd h
    obtain ⟨t26, h_t26, h⟩ := bnd h
    refine w_seq ((w_if (b := (!t26)) (tnot (bang (callI (aI (callI (aI cI (aI (vI rfl) (aI cI (aI (vI rfl) a0)))) rfl (k__law_door h_t25)) (aI (tupI (aI cI (aI (negI cI) (aI cI (aI cI a0)))) (Nat.le_of_ble_eq_true rfl)) a0)) rfl (k__law_same h_t26)))) (fun hc27 => ?_) (fun hc27 => ?_)))
    · rw [if1 hc27] at h
      cases h
      refine (w_ret cI ?_)
      exact rfl
    · rw [if0 hc27] at h
      refine w_nx ?_
      show wS _ [im ((tp PyData.int) tree), im (idD x_), im (PyData.int v_), im ((tp PyData.str) names3), imo o24] _
      obtain ⟨t30, h_t30, h⟩ := bnd h
      cases h
      refine w_seq ((w_ret (orX (binX (vI rfl) cI rfl rfl e_eq) h_t30 (fun _ _ hq => (by obtain ⟨t28, h_t28, hq⟩ := bnd hq; obtain ⟨t29, h_t29, hq⟩ := bnd hq; have hq := Option.some.inj hq; subst hq; exact (callI (aI (callI (aI cI (aI (vI rfl) (aI (vI rfl) (aI (vI rfl) a0)))) rfl (k__law_door h_t28)) (aI (tupI (aI cI a0) (Nat.le_of_ble_eq_true rfl)) a0)) rfl (k__law_same h_t29))))) ?_))
      exact rfl
  · subst hs
    cases h
    exact hr
theorem k__law_version {tree : (List Int)} {ups : (List (List Int))} {v_ : Int} {named : Bool} {r : Bool} (h : f_w_version tree ups v_ named = some r) : F__law_version [(tp PyData.int) tree, (ls (ls PyData.int)) ups, PyData.int v_, PyData.bool named] = some (.im (PyData.bool r)) := by
  unfold f_w_version at h
  refine t_fnI (enc := PyData.bool) rfl ?_
  show wS _ [im ((tp PyData.int) tree), im ((ls (ls PyData.int)) ups), im (PyData.int v_), im (PyData.bool named), none, none, none, none, none] _
  obtain ⟨is1, h_is1, h⟩ := bnd h
  obtain ⟨branch6, h_t5, h⟩ := bnd h
  refine w_seq ((t_set (f := (tp PyData.int)) (v := branch6) (w := branch6) rfl (cbX (dX (lcX (enc := PyData.int) (encB := PyData.int) h_t5 (rng1I (cbX (dX (vI rfl) d0 rfl) (o_lenL (f := (ls PyData.int)) (l := ups))) h_is1) rfl (fun x2 _ => ⟨_, rfl, rfl, fun _ hq => (by obtain ⟨t4, h_t4, hq⟩ := bnd hq; have hq := Option.some.inj hq; subst hq; exact (torX (bang (binX (vI rfl) (vI rfl) rfl rfl e_eq)) h_t4 (fun _ _ hq => (by obtain ⟨t3, h_t3, hq⟩ := bnd hq; have hq := Option.some.inj hq; subst hq; exact (bang (binX (vI rfl) (binX (vI rfl) (vI rfl) rfl rfl (o_ixL (f := (ls PyData.int)) (l := ups) h_t3)) rfl rfl (o_inL (x := v_) (l := t3)))))))), fun _ _ hq => (by have hq := Option.some.inj hq; subst hq; exact ⟨_, (vI rfl), rfl, rfl⟩)⟩)) d0 rfl) rfl) rfl ?_))
  show wS _ [im ((tp PyData.int) tree), im ((ls (ls PyData.int)) ups), im (PyData.int v_), im (PyData.bool named), im ((tp PyData.int) branch6), none, none, none, none] _
  obtain ⟨is7, h_is7, h⟩ := bnd h
  obtain ⟨children11, h_t10, h⟩ := bnd h
  refine w_seq ((t_set (f := (tp PyData.int)) (v := children11) (w := children11) rfl (cbX (dX (lcX (enc := PyData.int) (encB := PyData.int) h_t10 (rng2I cI (cbX (dX (vI rfl) d0 rfl) (o_lenL (f := (ls PyData.int)) (l := ups))) h_is7) rfl (fun x8 _ => ⟨_, rfl, rfl, fun _ hq => (by obtain ⟨t9, h_t9, hq⟩ := bnd hq; have hq := Option.some.inj hq; subst hq; exact (bang (binX (binX (vI rfl) (binX (vI rfl) cI rfl rfl e_sub) rfl rfl (o_ixT (f := PyData.int) (l := tree) h_t9)) (vI rfl) rfl rfl e_eq))), fun _ _ hq => (by have hq := Option.some.inj hq; subst hq; exact ⟨_, (vI rfl), rfl, rfl⟩)⟩)) d0 rfl) rfl) rfl ?_))
  show wS _ [im ((tp PyData.int) tree), im ((ls (ls PyData.int)) ups), im (PyData.int v_), im (PyData.bool named), im ((tp PyData.int) branch6), im ((tp PyData.int) children11), none, none, none] _
  obtain ⟨t12, h_t12, h⟩ := bnd h
  obtain ⟨t13, h_t13, h⟩ := bnd h
  obtain ⟨t15, h_t15, h⟩ := bnd h
  obtain ⟨path16, h_path16, h⟩ := bnd h
  refine w_seq ((t_set (f := (tp PyData.int)) (v := (upI t15)) (w := path16) h_path16 (cbX (dX (cbX (dX (lcX (enc := PyData.int) (encB := PyData.int) h_t15 (seqAX (f := PyData.int) (l := t13) (binX (lstX (aI (vI rfl) a0) (Nat.le_of_ble_eq_true rfl)) (binX (vI rfl) (vI rfl) rfl rfl (o_ixL (f := (ls PyData.int)) (l := ups) h_t12)) rfl rfl (o_catL (f := PyData.int) (l := [v_]) (m := t12) h_t13))) rfl (fun x14 _ => ⟨_, rfl, rfl, fun _ hq => (by have hq := Option.some.inj hq; subst hq; exact (bang (binX (vI rfl) cI rfl rfl e_qgt))), fun _ _ hq => (by have hq := Option.some.inj hq; subst hq; exact ⟨_, (vI rfl), rfl, rfl⟩)⟩)) d0 rfl) (o_sortedBI (l := t15))) d0 rfl) rfl) rfl ?_))
  show wS _ [im ((tp PyData.int) tree), im ((ls (ls PyData.int)) ups), im (PyData.int v_), im (PyData.bool named), im ((tp PyData.int) branch6), im ((tp PyData.int) children11), im ((tp PyData.int) path16), none, none] _
  refine t_join (fun (got_ : ((List Int) × (List Int) × Int × (List Int) × (List Int))) e => e = [im ((tp PyData.int) tree), im ((ls (ls PyData.int)) ups), im (PyData.int v_), im (PyData.bool named), im ((tp PyData.int) branch6), im ((tp PyData.int) children11), im ((tp PyData.int) path16), im ((p5 (tp PyData.int) (tp PyData.int) PyData.int (tp PyData.int) (tp PyData.int)) got_), none]) (fun (got_ : ((List Int) × (List Int) × Int × (List Int) × (List Int))) => f_w_version_J1 tree ups v_ named branch6 children11 path16 got_) (t := r) (fun got_ e he h => ?_) ?_
  · subst he
    replace h : f_w_version_J1 tree ups v_ named branch6 children11 path16 got_ = some r := h
    unfold f_w_version_J1 at h
    show wS _ [im ((tp PyData.int) tree), im ((ls (ls PyData.int)) ups), im (PyData.int v_), im (PyData.bool named), im ((tp PyData.int) branch6), im ((tp PyData.int) children11), im ((tp PyData.int) path16), im ((p5 (tp PyData.int) (tp PyData.int) PyData.int (tp PyData.int) (tp PyData.int)) got_), none] _
    obtain ⟨t44, h_t44, h⟩ := bnd h
    obtain ⟨t45, h_t45, h⟩ := bnd h
    obtain ⟨t46, h_t46, h⟩ := bnd h
    refine w_seq ((w_if (b := (!t46)) (tnot (bang (callI (aI (vI rfl) (aI (tupI (aI (cbX (dX (binX (vI rfl) (vI rfl) rfl rfl (o_ixL (f := (ls PyData.int)) (l := ups) h_t44)) d0 rfl) rfl) (aI (vI rfl) (aI (cbX (dX (binX (vI rfl) (vI rfl) rfl rfl (o_ixL (f := (ls PyData.int)) (l := ups) h_t45)) d0 rfl) (o_lenL (f := PyData.int) (l := t45))) (aI (vI rfl) (aI (vI rfl) a0))))) (Nat.le_of_ble_eq_true rfl)) a0)) rfl (k__law_same h_t46)))) (fun hc47 => ?_) (fun hc47 => ?_)))
    · rw [if1 hc47] at h
      cases h
      refine (w_ret cI ?_)
      exact rfl
    · rw [if0 hc47] at h
      refine w_nx ?_
      show wS _ [im ((tp PyData.int) tree), im ((ls (ls PyData.int)) ups), im (PyData.int v_), im (PyData.bool named), im ((tp PyData.int) branch6), im ((tp PyData.int) children11), im ((tp PyData.int) path16), im ((p5 (tp PyData.int) (tp PyData.int) PyData.int (tp PyData.int) (tp PyData.int)) got_), none] _
      refine w_seq ((w_if (b := ((decide ((0 : Int) < v_)) && named)) (tandXt (bang (binX (vI rfl) cI rfl rfl e_qgt)) (bang (vI rfl))) (fun hc48 => ?_) (fun hc48 => ?_)))
      · rw [if1 hc48] at h
        obtain ⟨t49, h_t49, h⟩ := bnd h
        obtain ⟨t50, h_t50, h⟩ := bnd h
        obtain ⟨t51, h_t51, h⟩ := bnd h
        obtain ⟨t52, h_t52, h⟩ := bnd h
        cases h
        refine (w_ret (callI (aI (callKI a0 (aI (vI rfl) (aI (vI rfl) a0)) rfl (k_parent_of h_t49)) (aI (binX (binX (vI rfl) (vI rfl) rfl rfl (o_ixL (f := (ls PyData.int)) (l := ups) h_t50)) cI rfl rfl (o_ixL (f := PyData.int) (l := t50) h_t51)) a0)) rfl (k__law_same h_t52)) ?_)
        exact rfl
      · rw [if0 hc48] at h
        refine w_nx ?_
        show wS _ [im ((tp PyData.int) tree), im ((ls (ls PyData.int)) ups), im (PyData.int v_), im (PyData.bool named), im ((tp PyData.int) branch6), im ((tp PyData.int) children11), im ((tp PyData.int) path16), im ((p5 (tp PyData.int) (tp PyData.int) PyData.int (tp PyData.int) (tp PyData.int)) got_), none] _
        obtain ⟨t57, h_t57, h⟩ := bnd h
        cases h
        refine w_seq ((w_ret (orX (binX (vI rfl) cI rfl rfl e_eq) h_t57 (fun _ _ hq => (by obtain ⟨t53, h_t53, hq⟩ := bnd hq; obtain ⟨t54, h_t54, hq⟩ := bnd hq; obtain ⟨t55, h_t55, hq⟩ := bnd hq; obtain ⟨t56, h_t56, hq⟩ := bnd hq; have hq := Option.some.inj hq; subst hq; exact (callI (aI (callI (aI (vI rfl) (aI (vI rfl) a0)) rfl (k_parent_of h_t53)) (aI (binX (binX (vI rfl) (vI rfl) rfl rfl (o_ixL (f := (ls PyData.int)) (l := ups) h_t54)) cI rfl rfl (o_ixL (f := PyData.int) (l := t54) h_t55)) a0)) rfl (k__law_same h_t56))))) ?_))
        exact rfl
  · refine ((w_if (b := named) (bang (vI rfl)) (fun hc17 => ?_) (fun hc17 => ?_)))
    · rw [if1 hc17] at h
      obtain ⟨t58, h_t58, h⟩ := bnd h
      obtain ⟨t59, h_t59, h⟩ := bnd h
      obtain ⟨t60, h_t60, h⟩ := bnd h
      obtain ⟨t61, h_t61, h⟩ := bnd h
      obtain ⟨t62, h_t62, h⟩ := bnd h
      obtain ⟨got63, h_got63, h⟩ := bnd h
      refine (t_set (f := (p5 (tp PyData.int) (tp PyData.int) PyData.int (tp PyData.int) (tp PyData.int))) (v := (t58, t59, t60, t61, t62)) (w := got63) h_got63 (tupI (aI (callKI a0 (aI (vI rfl) (aI (vI rfl) a0)) rfl (k_elders_of h_t58)) (aI (callKI a0 (aI (vI rfl) (aI (vI rfl) a0)) rfl (k_path_of h_t59)) (aI (callKI a0 (aI (vI rfl) (aI (vI rfl) a0)) rfl (k_depth_of h_t60)) (aI (callKI a0 (aI (vI rfl) (aI (vI rfl) a0)) rfl (k_children_of h_t61)) (aI (callKI a0 (aI (vI rfl) (aI (vI rfl) a0)) rfl (k_branch_of h_t62)) a0))))) (Nat.le_of_ble_eq_true rfl)) rfl ?_)
      exact ⟨got63, rfl, h⟩
    · rw [if0 hc17] at h
      obtain ⟨t64, h_t64, h⟩ := bnd h
      obtain ⟨t65, h_t65, h⟩ := bnd h
      obtain ⟨t66, h_t66, h⟩ := bnd h
      obtain ⟨t67, h_t67, h⟩ := bnd h
      obtain ⟨t68, h_t68, h⟩ := bnd h
      obtain ⟨got69, h_got69, h⟩ := bnd h
      refine (t_set (f := (p5 (tp PyData.int) (tp PyData.int) PyData.int (tp PyData.int) (tp PyData.int))) (v := (t64, t65, t66, t67, t68)) (w := got69) h_got69 (tupI (aI (callI (aI (vI rfl) (aI (vI rfl) a0)) rfl (k_elders_of h_t64)) (aI (callI (aI (vI rfl) (aI (vI rfl) a0)) rfl (k_path_of h_t65)) (aI (callI (aI (vI rfl) (aI (vI rfl) a0)) rfl (k_depth_of h_t66)) (aI (callI (aI (vI rfl) (aI (vI rfl) a0)) rfl (k_children_of h_t67)) (aI (callI (aI (vI rfl) (aI (vI rfl) a0)) rfl (k_branch_of h_t68)) a0))))) (Nat.le_of_ble_eq_true rfl)) rfl ?_)
      exact ⟨got69, rfl, h⟩
theorem k__law_pair {tree : (List Int)} {ups : (List (List Int))} {v_ : Int} {w_ : Int} {named : Bool} {r : Bool} (h : f_w_pair tree ups v_ w_ named = some r) : F__law_pair [(tp PyData.int) tree, (ls (ls PyData.int)) ups, PyData.int v_, PyData.int w_, PyData.bool named] = some (.im (PyData.bool r)) := by
  unfold f_w_pair at h
  refine t_fnI (enc := PyData.bool) rfl ?_
  show wS _ [im ((tp PyData.int) tree), im ((ls (ls PyData.int)) ups), im (PyData.int v_), im (PyData.int w_), im (PyData.bool named), none, none, none] _
  obtain ⟨t1, h_t1, h⟩ := bnd h
  obtain ⟨t2, h_t2, h⟩ := bnd h
  obtain ⟨t6, h_t6, h⟩ := bnd h
  obtain ⟨both8, h_t7, h⟩ := bnd h
  refine w_seq ((t_set (f := PyData.int) (v := both8) (w := both8) rfl (cbX (dX (lcX (enc := PyData.int) (encB := PyData.int) h_t6 (seqAX (f := PyData.int) (l := t2) (binX (lstX (aI (vI rfl) a0) (Nat.le_of_ble_eq_true rfl)) (binX (vI rfl) (vI rfl) rfl rfl (o_ixL (f := (ls PyData.int)) (l := ups) h_t1)) rfl rfl (o_catL (f := PyData.int) (l := [v_]) (m := t1) h_t2))) rfl (fun x3 _ => ⟨_, rfl, rfl, fun _ hq => (by obtain ⟨t5, h_t5, hq⟩ := bnd hq; have hq := Option.some.inj hq; subst hq; exact (torX (bang (binX (vI rfl) (vI rfl) rfl rfl e_eq)) h_t5 (fun _ _ hq => (by obtain ⟨t4, h_t4, hq⟩ := bnd hq; have hq := Option.some.inj hq; subst hq; exact (bang (binX (vI rfl) (binX (vI rfl) (vI rfl) rfl rfl (o_ixL (f := (ls PyData.int)) (l := ups) h_t4)) rfl rfl (o_inL (x := x3) (l := t4)))))))), fun _ _ hq => (by have hq := Option.some.inj hq; subst hq; exact ⟨_, (vI rfl), rfl, rfl⟩)⟩)) d0 rfl) (o_maxL (l := t6) h_t7)) rfl ?_))
  show wS _ [im ((tp PyData.int) tree), im ((ls (ls PyData.int)) ups), im (PyData.int v_), im (PyData.int w_), im (PyData.bool named), im (PyData.int both8), none, none] _
  refine w_seq ((w_if (b := named) (bang (vI rfl)) (fun hc9 => ?_) (fun hc9 => ?_)))
  · rw [if1 hc9] at h
    obtain ⟨t10, h_t10, h⟩ := bnd h
    obtain ⟨t11, h_t11, h⟩ := bnd h
    obtain ⟨got12, h_got12, h⟩ := bnd h
    refine (t_set (f := (p2 PyData.bool PyData.int)) (v := (t10, t11)) (w := got12) h_got12 (tupI (aI (callKI a0 (aI (vI rfl) (aI (vI rfl) (aI (vI rfl) a0))) rfl (k_is_elder h_t10)) (aI (callKI a0 (aI (vI rfl) (aI (vI rfl) (aI (vI rfl) a0))) rfl (k_meet_of h_t11)) a0)) (Nat.le_of_ble_eq_true rfl)) rfl ?_)
    show wS _ [im ((tp PyData.int) tree), im ((ls (ls PyData.int)) ups), im (PyData.int v_), im (PyData.int w_), im (PyData.bool named), im (PyData.int both8), im ((p2 PyData.bool PyData.int) got12), none] _
    obtain ⟨t13, h_t13, h⟩ := bnd h
    obtain ⟨t14, h_t14, h⟩ := bnd h
    cases h
    refine w_seq ((w_ret (callI (aI (vI rfl) (aI (tupI (aI (binX (vI rfl) (binX (vI rfl) (vI rfl) rfl rfl (o_ixL (f := (ls PyData.int)) (l := ups) h_t13)) rfl rfl (o_inL (x := v_) (l := t13))) (aI (vI rfl) a0)) (Nat.le_of_ble_eq_true rfl)) a0)) rfl (k__law_same h_t14)) ?_))
    exact rfl
  · rw [if0 hc9] at h
    obtain ⟨t15, h_t15, h⟩ := bnd h
    obtain ⟨t16, h_t16, h⟩ := bnd h
    obtain ⟨got17, h_got17, h⟩ := bnd h
    refine (t_set (f := (p2 PyData.bool PyData.int)) (v := (t15, t16)) (w := got17) h_got17 (tupI (aI (callI (aI (vI rfl) (aI (vI rfl) (aI (vI rfl) a0))) rfl (k_is_elder h_t15)) (aI (callI (aI (vI rfl) (aI (vI rfl) (aI (vI rfl) a0))) rfl (k_meet_of h_t16)) a0)) (Nat.le_of_ble_eq_true rfl)) rfl ?_)
    show wS _ [im ((tp PyData.int) tree), im ((ls (ls PyData.int)) ups), im (PyData.int v_), im (PyData.int w_), im (PyData.bool named), im (PyData.int both8), im ((p2 PyData.bool PyData.int) got17), none] _
    obtain ⟨t18, h_t18, h⟩ := bnd h
    obtain ⟨t19, h_t19, h⟩ := bnd h
    cases h
    refine w_seq ((w_ret (callI (aI (vI rfl) (aI (tupI (aI (binX (vI rfl) (binX (vI rfl) (vI rfl) rfl rfl (o_ixL (f := (ls PyData.int)) (l := ups) h_t18)) rfl rfl (o_inL (x := v_) (l := t18))) (aI (vI rfl) a0)) (Nat.le_of_ble_eq_true rfl)) a0)) rfl (k__law_same h_t19)) ?_))
    exact rfl
theorem k__law_whole {tree : (List Int)} {ups : (List (List Int))} {named : Bool} {r : Bool} (h : f_w_whole tree ups named = some r) : F__law_whole [(tp PyData.int) tree, (ls (ls PyData.int)) ups, PyData.bool named] = some (.im (PyData.bool r)) := by
  unfold f_w_whole at h
  refine t_fnI (enc := PyData.bool) rfl ?_
  show wS _ [im ((tp PyData.int) tree), im ((ls (ls PyData.int)) ups), im (PyData.bool named), none, none, none, none, none, none, none] _
  obtain ⟨parents3, h_t2, h⟩ := bnd h
  refine w_seq ((t_setL (f := PyData.int) (v := parents3) (w := parents3) rfl (lcX (enc := PyData.int) (encB := PyData.int) h_t2 (seqTX (f := PyData.int) (l := tree) (vI rfl)) rfl (fun x1 _ => ⟨_, rfl, rfl, fun _ hq => (by have hq := Option.some.inj hq; subst hq; rfl), fun _ _ hq => (by have hq := Option.some.inj hq; subst hq; exact ⟨_, (vI rfl), rfl, rfl⟩)⟩)) rfl ?_))
  show wS _ [im ((tp PyData.int) tree), im ((ls (ls PyData.int)) ups), im (PyData.bool named), im ((ls PyData.int) parents3), none, none, none, none, none, none] _
  obtain ⟨is4, h_is4, h⟩ := bnd h
  obtain ⟨leaves7, h_t6, h⟩ := bnd h
  refine w_seq ((t_set (f := (tp PyData.int)) (v := leaves7) (w := leaves7) rfl (cbX (dX (lcX (enc := PyData.int) (encB := PyData.int) h_t6 (rng1I (cbX (dX (vI rfl) d0 rfl) (o_lenL (f := (ls PyData.int)) (l := ups))) h_is4) rfl (fun x5 _ => ⟨_, rfl, rfl, fun _ hq => (by have hq := Option.some.inj hq; subst hq; exact (bang (binX (vI rfl) (vI rfl) rfl rfl (o_notinL (x := x5) (l := parents3))))), fun _ _ hq => (by have hq := Option.some.inj hq; subst hq; exact ⟨_, (vI rfl), rfl, rfl⟩)⟩)) d0 rfl) rfl) rfl ?_))
  show wS _ [im ((tp PyData.int) tree), im ((ls (ls PyData.int)) ups), im (PyData.bool named), im ((ls PyData.int) parents3), im ((tp PyData.int) leaves7), none, none, none, none, none] _
  obtain ⟨t8, h_t8, h⟩ := bnd h
  obtain ⟨straight9, h_straight9, h⟩ := bnd h
  refine w_seq ((t_set (f := PyData.bool) (v := (decide (tree = t8))) (w := straight9) h_straight9 (binX (vI rfl) (trgX (rg1X (cbX (dX (vI rfl) d0 rfl) (o_lenT (f := PyData.int) (l := tree)))) h_t8) rfl rfl (o_eq (f := (tp PyData.int)) (by decide) tree t8)) rfl ?_))
  show wS _ [im ((tp PyData.int) tree), im ((ls (ls PyData.int)) ups), im (PyData.bool named), im ((ls PyData.int) parents3), im ((tp PyData.int) leaves7), im (PyData.bool straight9), none, none, none, none] _
  refine w_seq ((w_if (b := named) (bang (vI rfl)) (fun hc10 => ?_) (fun hc10 => ?_)))
  · rw [if1 hc10] at h
    obtain ⟨t11, h_t11, h⟩ := bnd h
    obtain ⟨t12, h_t12, h⟩ := bnd h
    obtain ⟨t13, h_t13, h⟩ := bnd h
    obtain ⟨t14, h_t14, h⟩ := bnd h
    obtain ⟨got15, h_got15, h⟩ := bnd h
    refine (t_set (f := (p4 PyData.int PyData.int (tp PyData.int) PyData.bool)) (v := (t11, t12, t13, t14)) (w := got15) h_got15 (tupI (aI (callKI a0 (aI (vI rfl) a0) rfl (k_many_of h_t11)) (aI (callKI a0 (aI (vI rfl) a0) rfl (k_depth_in h_t12)) (aI (callKI a0 (aI (vI rfl) a0) rfl (k_leaves_of h_t13)) (aI (callKI a0 (aI (vI rfl) a0) rfl (k_is_line h_t14)) a0)))) (Nat.le_of_ble_eq_true rfl)) rfl ?_)
    show wS _ [im ((tp PyData.int) tree), im ((ls (ls PyData.int)) ups), im (PyData.bool named), im ((ls PyData.int) parents3), im ((tp PyData.int) leaves7), im (PyData.bool straight9), im ((p4 PyData.int PyData.int (tp PyData.int) PyData.bool) got15), none, none, none] _
    obtain ⟨t17, h_t17, h⟩ := bnd h
    obtain ⟨t18, h_t18, h⟩ := bnd h
    obtain ⟨t19, h_t19, h⟩ := bnd h
    cases h
    refine w_seq ((w_ret (callI (aI (vI rfl) (aI (tupI (aI (cbX (dX (vI rfl) d0 rfl) (o_lenT (f := PyData.int) (l := tree))) (aI (cbX (dX (lcX (enc := (ls PyData.int)) (encB := PyData.int) h_t17 (seqLX (f := (ls PyData.int)) (l := ups) (vI rfl)) rfl (fun x16 _ => ⟨_, rfl, rfl, fun _ hq => (by have hq := Option.some.inj hq; subst hq; rfl), fun _ _ hq => (by have hq := Option.some.inj hq; subst hq; exact ⟨_, (cbX (dX (vI rfl) d0 rfl) (o_lenL (f := PyData.int) (l := x16))), rfl, rfl⟩)⟩)) d0 rfl) (o_maxL (l := t17) h_t18)) (aI (vI rfl) (aI (vI rfl) a0)))) (Nat.le_of_ble_eq_true rfl)) a0)) rfl (k__law_same h_t19)) ?_))
    exact rfl
  · rw [if0 hc10] at h
    obtain ⟨t20, h_t20, h⟩ := bnd h
    obtain ⟨t21, h_t21, h⟩ := bnd h
    obtain ⟨t22, h_t22, h⟩ := bnd h
    obtain ⟨t23, h_t23, h⟩ := bnd h
    obtain ⟨got24, h_got24, h⟩ := bnd h
    refine (t_set (f := (p4 PyData.int PyData.int (tp PyData.int) PyData.bool)) (v := (t20, t21, t22, t23)) (w := got24) h_got24 (tupI (aI (callI (aI (vI rfl) a0) rfl (k_many_of h_t20)) (aI (callI (aI (vI rfl) a0) rfl (k_depth_in h_t21)) (aI (callI (aI (vI rfl) a0) rfl (k_leaves_of h_t22)) (aI (callI (aI (vI rfl) a0) rfl (k_is_line h_t23)) a0)))) (Nat.le_of_ble_eq_true rfl)) rfl ?_)
    show wS _ [im ((tp PyData.int) tree), im ((ls (ls PyData.int)) ups), im (PyData.bool named), im ((ls PyData.int) parents3), im ((tp PyData.int) leaves7), im (PyData.bool straight9), im ((p4 PyData.int PyData.int (tp PyData.int) PyData.bool) got24), none, none, none] _
    obtain ⟨t26, h_t26, h⟩ := bnd h
    obtain ⟨t27, h_t27, h⟩ := bnd h
    obtain ⟨t28, h_t28, h⟩ := bnd h
    cases h
    refine w_seq ((w_ret (callI (aI (vI rfl) (aI (tupI (aI (cbX (dX (vI rfl) d0 rfl) (o_lenT (f := PyData.int) (l := tree))) (aI (cbX (dX (lcX (enc := (ls PyData.int)) (encB := PyData.int) h_t26 (seqLX (f := (ls PyData.int)) (l := ups) (vI rfl)) rfl (fun x25 _ => ⟨_, rfl, rfl, fun _ hq => (by have hq := Option.some.inj hq; subst hq; rfl), fun _ _ hq => (by have hq := Option.some.inj hq; subst hq; exact ⟨_, (cbX (dX (vI rfl) d0 rfl) (o_lenL (f := PyData.int) (l := x25))), rfl, rfl⟩)⟩)) d0 rfl) (o_maxL (l := t26) h_t27)) (aI (vI rfl) (aI (vI rfl) a0)))) (Nat.le_of_ble_eq_true rfl)) a0)) rfl (k__law_same h_t28)) ?_))
    exact rfl
theorem k_law {script : (List Int)} {r : Bool} (h : f_law script = some r) : F_law [(ls PyData.int) script] = some (.im (PyData.bool r)) := by
  unfold f_law at h
  refine t_fnI (enc := PyData.bool) rfl ?_
  show wS _ [im ((ls PyData.int) script), none, none, none, none, none, none, none, none, none, none] _
  obtain ⟨row2, h_t1, h⟩ := bnd h
  refine w_seq ((t_setL (f := PyData.int) (v := row2) (w := row2) rfl (callA (aI (vI rfl) (aI cI a0)) rfl (k__law_draws h_t1)) rfl ?_))
  show wS _ [im ((ls PyData.int) script), im ((ls PyData.int) row2), none, none, none, none, none, none, none, none, none] _
  obtain ⟨t3, h_t3, h⟩ := bnd h
  obtain ⟨size4, h_size4, h⟩ := bnd h
  refine w_seq ((t_set (f := PyData.int) (v := (t3 % (10 : Int))) (w := size4) h_size4 (binX (cbX (dX (binX (vI rfl) cI rfl rfl (o_ixL (f := PyData.int) (l := row2) h_t3)) d0 rfl) o_int) cI rfl rfl (e_mod (by decide))) rfl ?_))
  show wS _ [im ((ls PyData.int) script), im ((ls PyData.int) row2), im (PyData.int size4), none, none, none, none, none, none, none, none] _
  obtain ⟨t5, h_t5, h⟩ := bnd h
  refine t_join (fun (size_ : Int) e => e = [im ((ls PyData.int) script), im ((ls PyData.int) row2), im (PyData.int size_), none, none, none, none, none, none, none, none]) (fun (size_ : Int) => f_law_J1 row2 size_) (t := r) (fun size_ e he h => ?_) ?_
  · subst he
    replace h : f_law_J1 row2 size_ = some r := h
    unfold f_law_J1 at h
    show wS _ [im ((ls PyData.int) script), im ((ls PyData.int) row2), im (PyData.int size_), none, none, none, none, none, none, none, none] _
    obtain ⟨t124, h_t124, h⟩ := bnd h
    obtain ⟨tree126, h_t125, h⟩ := bnd h
    refine w_seq ((t_set (f := (tp PyData.int)) (v := tree126) (w := tree126) rfl (callI (aA (cutLX (f := PyData.int) (l := row2) (vI rfl) (oA cI) (oA cI) rfl) (aI (vI rfl) (aI (binX (cbX (dX (binX (vI rfl) cI rfl rfl (o_ixL (f := PyData.int) (l := row2) h_t124)) d0 rfl) o_int) cI rfl rfl (e_mod (by decide))) a0))) rfl (k__law_tree h_t125)) rfl ?_))
    show wS _ [im ((ls PyData.int) script), im ((ls PyData.int) row2), im (PyData.int size_), im ((tp PyData.int) tree126), none, none, none, none, none, none, none] _
    obtain ⟨ups128, h_t127, h⟩ := bnd h
    refine w_seq ((t_setL (f := (ls PyData.int)) (v := ups128) (w := ups128) rfl (callA (aI (vI rfl) a0) rfl (k__law_ups h_t127)) rfl ?_))
    show wS _ [im ((ls PyData.int) script), im ((ls PyData.int) row2), im (PyData.int size_), im ((tp PyData.int) tree126), im ((ls (ls PyData.int)) ups128), none, none, none, none, none, none] _
    obtain ⟨t129, h_t129, h⟩ := bnd h
    obtain ⟨t132, h_t132, h⟩ := bnd h
    refine w_seq ((w_if (b := t132) (torX (tnot (bang (callI (aI (vI rfl) a0) rfl (k__law_judged h_t129)))) h_t132 (fun _ _ hq => (by obtain ⟨t130, h_t130, hq⟩ := bnd hq; obtain ⟨t131, h_t131, hq⟩ := bnd hq; have hq := Option.some.inj hq; subst hq; exact (tnot (bang (callI (aI (callI (aA (cutLX (f := PyData.int) (l := row2) (vI rfl) (oA cI) (oA cI) rfl) (aI (vI rfl) a0)) rfl (k__law_thing h_t130)) a0) rfl (k__law_judged h_t131))))))) (fun hc133 => ?_) (fun hc133 => ?_)))
    · rw [if1 hc133] at h
      cases h
      refine (w_ret cI ?_)
      exact rfl
    · rw [if0 hc133] at h
      refine w_nx ?_
      show wS _ [im ((ls PyData.int) script), im ((ls PyData.int) row2), im (PyData.int size_), im ((tp PyData.int) tree126), im ((ls (ls PyData.int)) ups128), none, none, none, none, none, none] _
      obtain ⟨t134, h_t134, h⟩ := bnd h
      refine w_seq ((w_if (b := (!t134)) (tnot (bang (callI (aI (vI rfl) (aI (vI rfl) (aI cI a0))) rfl (k__law_whole h_t134)))) (fun hc135 => ?_) (fun hc135 => ?_)))
      · rw [if1 hc135] at h
        cases h
        refine (w_ret cI ?_)
        exact rfl
      · rw [if0 hc135] at h
        refine w_nx ?_
        show wS _ [im ((ls PyData.int) script), im ((ls PyData.int) row2), im (PyData.int size_), im ((tp PyData.int) tree126), im ((ls (ls PyData.int)) ups128), none, none, none, none, none, none] _
        obtain ⟨asks137, h_t136, h⟩ := bnd h
        refine w_seq ((t_setL (f := PyData.int) (v := asks137) (w := asks137) rfl (lrgX (rg1X (binX (vI rfl) cI rfl rfl e_add)) h_t136) rfl ?_))
        show wS _ [im ((ls PyData.int) script), im ((ls PyData.int) row2), im (PyData.int size_), im ((tp PyData.int) tree126), im ((ls (ls PyData.int)) ups128), im ((ls PyData.int) asks137), none, none, none, none, none] _
        obtain ⟨t138, h_t138, h⟩ := bnd h
        obtain ⟨is139, h_is139, h⟩ := bnd h
        obtain ⟨pairs144, h_t143, h⟩ := bnd h
        refine w_seq ((t_setL (f := (p2 PyData.int PyData.int)) (v := pairs144) (w := pairs144) rfl (lcX (enc := PyData.int) (encB := (p2 PyData.int PyData.int)) h_t143 (rng1I (binX (binX (vI rfl) cI rfl rfl e_add) (binX (vI rfl) cI rfl rfl e_add) rfl rfl (o_mul h_t138)) h_is139) rfl (fun x140 _ => ⟨_, rfl, rfl, fun _ hq => (by have hq := Option.some.inj hq; subst hq; rfl), fun _ _ hq => (by obtain ⟨t141, h_t141, hq⟩ := bnd hq; obtain ⟨t142, h_t142, hq⟩ := bnd hq; have hq := Option.some.inj hq; subst hq; exact ⟨_, (tupI (aI (binX (vI rfl) (binX (vI rfl) cI rfl rfl e_add) rfl rfl (o_div h_t141)) (aI (binX (cbX (dX (vI rfl) d0 rfl) o_int) (binX (vI rfl) cI rfl rfl e_add) rfl rfl (o_mod h_t142)) a0)) (Nat.le_of_ble_eq_true rfl)), rfl, rfl⟩)⟩)) rfl ?_))
        show wS _ [im ((ls PyData.int) script), im ((ls PyData.int) row2), im (PyData.int size_), im ((tp PyData.int) tree126), im ((ls (ls PyData.int)) ups128), im ((ls PyData.int) asks137), im ((ls (p2 PyData.int PyData.int)) pairs144), none, none, none, none] _
        refine t_join (fun (s_ : (List Int) × (List (Int × Int))) e => e = [im ((ls PyData.int) script), im ((ls PyData.int) row2), im (PyData.int size_), im ((tp PyData.int) tree126), im ((ls (ls PyData.int)) ups128), im ((ls PyData.int) s_.1), im ((ls (p2 PyData.int PyData.int)) s_.2), none, none, none, none]) (fun (s_ : (List Int) × (List (Int × Int))) => f_law_J2 row2 size_ tree126 ups128 s_.1 s_.2) (t := r) (fun s_ e he h => ?_) ?_
        · subst he
          obtain ⟨asks_, pairs_⟩ := s_
          replace h : f_law_J2 row2 size_ tree126 ups128 asks_ pairs_ = some r := h
          unfold f_law_J2 at h
          show wS _ [im ((ls PyData.int) script), im ((ls PyData.int) row2), im (PyData.int size_), im ((tp PyData.int) tree126), im ((ls (ls PyData.int)) ups128), im ((ls PyData.int) asks_), im ((ls (p2 PyData.int PyData.int)) pairs_), none, none, none, none] _
          obtain ⟨l_, hl, h⟩ := bnd h
          refine w_seq ((t_forG PyData.int asks_ (fun x_1 (s_ : Unit) => f_law_L1 row2 size_ tree126 ups128 asks_ pairs_ x_1) (fun (s_ : Unit) e => ∃ (o160 : Option PyData), e = [im ((ls PyData.int) script), im ((ls PyData.int) row2), im (PyData.int size_), im ((tp PyData.int) tree126), im ((ls (ls PyData.int)) ups128), im ((ls PyData.int) asks_), im ((ls (p2 PyData.int PyData.int)) pairs_), imo o160, none, none, none]) (rtI PyData.bool) (seqLX (f := PyData.int) (l := asks_) (vI rfl)) ⟨none, rfl⟩ hl (fun x_1 s_ l2_ h e he => ?_) (fun s163 hs e he => ?_) (fun r_ hs r2_ e hr => ?_)))
          · obtain ⟨o160, rfl⟩ := he
            refine ⟨rfl, _, rfl, ?_⟩
            show wS _ [im ((ls PyData.int) script), im ((ls PyData.int) row2), im (PyData.int size_), im ((tp PyData.int) tree126), im ((ls (ls PyData.int)) ups128), im ((ls PyData.int) asks_), im ((ls (p2 PyData.int PyData.int)) pairs_), im (PyData.int x_1), none, none, none] _
            replace h : f_law_L1 row2 size_ tree126 ups128 asks_ pairs_ x_1 = some l2_ := h
            unfold f_law_L1 at h
            obtain ⟨t161, h_t161, h⟩ := bnd h
            refine (w_if (b := (!t161)) (tnot (bang (callI (aI (vI rfl) (aI (vI rfl) (aI (vI rfl) (aI cI a0)))) rfl (k__law_version h_t161)))) (fun hc162 => ?_) (fun hc162 => ?_))
            · rw [if1 hc162] at h
              cases h
              refine (w_ret cI ?_)
              exact rfl
            · rw [if0 hc162] at h
              refine w_nx ?_
              cases h
              exact ⟨some (PyData.int x_1), rfl⟩
          · subst hs
            replace h : _ = some r := h
            dsimp only at h
            obtain ⟨o164, rfl⟩ := he
            show wS _ [im ((ls PyData.int) script), im ((ls PyData.int) row2), im (PyData.int size_), im ((tp PyData.int) tree126), im ((ls (ls PyData.int)) ups128), im ((ls PyData.int) asks_), im ((ls (p2 PyData.int PyData.int)) pairs_), imo o164, none, none, none] _
            obtain ⟨l_, hl, h⟩ := bnd h
            refine w_seq ((t_forG (p2 PyData.int PyData.int) pairs_ (fun x_2 (s_ : Unit) => f_law_L2 row2 size_ tree126 ups128 pairs_ x_2) (fun (s_ : Unit) e => ∃ (o165 : Option PyData) (o166 : Option PyData), e = [im ((ls PyData.int) script), im ((ls PyData.int) row2), im (PyData.int size_), im ((tp PyData.int) tree126), im ((ls (ls PyData.int)) ups128), im ((ls PyData.int) asks_), im ((ls (p2 PyData.int PyData.int)) pairs_), imo o165, imo o166, none, none]) (rtI PyData.bool) (seqLX (f := (p2 PyData.int PyData.int)) (l := pairs_) (vI rfl)) ⟨o164, none, rfl⟩ hl (fun x_2 s_ l2_ h e he => ?_) (fun s169 hs e he => ?_) (fun r_ hs r2_ e hr => ?_)))
            · obtain ⟨o165, o166, rfl⟩ := he
              refine ⟨rfl, _, rfl, ?_⟩
              show wS _ [im ((ls PyData.int) script), im ((ls PyData.int) row2), im (PyData.int size_), im ((tp PyData.int) tree126), im ((ls (ls PyData.int)) ups128), im ((ls PyData.int) asks_), im ((ls (p2 PyData.int PyData.int)) pairs_), im (PyData.int x_2.1), im (PyData.int x_2.2), none, none] _
              replace h : f_law_L2 row2 size_ tree126 ups128 pairs_ x_2 = some l2_ := h
              unfold f_law_L2 at h
              obtain ⟨t167, h_t167, h⟩ := bnd h
              refine (w_if (b := (!t167)) (tnot (bang (callI (aI (vI rfl) (aI (vI rfl) (aI (vI rfl) (aI (vI rfl) (aI cI a0))))) rfl (k__law_pair h_t167)))) (fun hc168 => ?_) (fun hc168 => ?_))
              · rw [if1 hc168] at h
                cases h
                refine (w_ret cI ?_)
                exact rfl
              · rw [if0 hc168] at h
                refine w_nx ?_
                cases h
                exact ⟨some (PyData.int x_2.1), some (PyData.int x_2.2), rfl⟩
            · subst hs
              replace h : _ = some r := h
              dsimp only at h
              obtain ⟨o170, o171, rfl⟩ := he
              show wS _ [im ((ls PyData.int) script), im ((ls PyData.int) row2), im (PyData.int size_), im ((tp PyData.int) tree126), im ((ls (ls PyData.int)) ups128), im ((ls PyData.int) asks_), im ((ls (p2 PyData.int PyData.int)) pairs_), imo o170, imo o171, none, none] _
              obtain ⟨t172, h_t172, h⟩ := bnd h
              obtain ⟨v_174, h_t173, h⟩ := bnd h
              refine w_seq ((t_set (f := PyData.int) (v := v_174) (w := v_174) rfl (binX (cbX (dX (binX (vI rfl) cI rfl rfl (o_ixL (f := PyData.int) (l := row2) h_t172)) d0 rfl) o_int) (binX (vI rfl) cI rfl rfl e_add) rfl rfl (o_mod h_t173)) rfl ?_))
              show wS _ [im ((ls PyData.int) script), im ((ls PyData.int) row2), im (PyData.int size_), im ((tp PyData.int) tree126), im ((ls (ls PyData.int)) ups128), im ((ls PyData.int) asks_), im ((ls (p2 PyData.int PyData.int)) pairs_), im (PyData.int v_174), imo o171, none, none] _
              obtain ⟨t175, h_t175, h⟩ := bnd h
              obtain ⟨w_177, h_t176, h⟩ := bnd h
              refine w_seq ((t_set (f := PyData.int) (v := w_177) (w := w_177) rfl (binX (cbX (dX (binX (vI rfl) cI rfl rfl (o_ixL (f := PyData.int) (l := row2) h_t175)) d0 rfl) o_int) (binX (vI rfl) cI rfl rfl e_add) rfl rfl (o_mod h_t176)) rfl ?_))
              show wS _ [im ((ls PyData.int) script), im ((ls PyData.int) row2), im (PyData.int size_), im ((tp PyData.int) tree126), im ((ls (ls PyData.int)) ups128), im ((ls PyData.int) asks_), im ((ls (p2 PyData.int PyData.int)) pairs_), im (PyData.int v_174), im (PyData.int w_177), none, none] _
              obtain ⟨t178, h_t178, h⟩ := bnd h
              obtain ⟨t180, h_t180, h⟩ := bnd h
              refine w_seq ((w_if (b := t180) (torX (tnot (bang (callI (aI (vI rfl) (aI (vI rfl) (aI (vI rfl) (aI cI a0)))) rfl (k__law_version h_t178)))) h_t180 (fun _ _ hq => (by obtain ⟨t179, h_t179, hq⟩ := bnd hq; have hq := Option.some.inj hq; subst hq; exact (tnot (bang (callI (aI (vI rfl) (aI (vI rfl) (aI (vI rfl) (aI (vI rfl) (aI cI a0))))) rfl (k__law_pair h_t179))))))) (fun hc181 => ?_) (fun hc181 => ?_)))
              · rw [if1 hc181] at h
                cases h
                refine (w_ret cI ?_)
                exact rfl
              · rw [if0 hc181] at h
                refine w_nx ?_
                show wS _ [im ((ls PyData.int) script), im ((ls PyData.int) row2), im (PyData.int size_), im ((tp PyData.int) tree126), im ((ls (ls PyData.int)) ups128), im ((ls PyData.int) asks_), im ((ls (p2 PyData.int PyData.int)) pairs_), im (PyData.int v_174), im (PyData.int w_177), none, none] _
                obtain ⟨t182, h_t182, h⟩ := bnd h
                obtain ⟨t183, h_t183, h⟩ := bnd h
                obtain ⟨odd185, h_t184, h⟩ := bnd h
                refine w_seq ((t_set (f := idD) (v := odd185) (w := odd185) rfl (binX (tupI (aI (binX (vI rfl) cI rfl rfl e_add) (aI (negI cI) (aI cI (aI cI (aI cI (aI cI (aI (tupI (aI (vI rfl) a0) (Nat.le_of_ble_eq_true rfl)) (aA (lstX (aI (vI rfl) a0) (Nat.le_of_ble_eq_true rfl)) (aI (binX (vI rfl) cI rfl rfl e_add) (aI (binX cI cI rfl rfl (o_pow h_t182)) (aI (binX (negI (vI rfl)) cI rfl rfl e_sub) (aI (tupI a0 (Nat.le_of_ble_eq_true rfl)) a0)))))))))))) (Nat.le_of_ble_eq_true rfl)) (binX (cbX (dX (binX (vI rfl) cI rfl rfl (o_ixL (f := PyData.int) (l := row2) h_t183)) d0 rfl) o_int) cI rfl rfl (e_mod (by decide))) rfl rfl (o_ixT (f := idD) (l := [(PyData.int (size_ + (1 : Int))), (PyData.int (-1 : Int)), (PyData.bool true), (PyData.bool false), (nn ()), (PyData.str ("0" : Str)), ((p1 PyData.int) v_174), ((ls PyData.int) [v_174]), (PyData.int (size_ + (2 : Int))), (PyData.int t182), (PyData.int ((-size_) - (1 : Int))), ((tp PyData.int) [])]) h_t184)) rfl ?_))
                show wS _ [im ((ls PyData.int) script), im ((ls PyData.int) row2), im (PyData.int size_), im ((tp PyData.int) tree126), im ((ls (ls PyData.int)) ups128), im ((ls PyData.int) asks_), im ((ls (p2 PyData.int PyData.int)) pairs_), im (PyData.int v_174), im (PyData.int w_177), im (idD odd185), none] _
                obtain ⟨t186, h_t186, h⟩ := bnd h
                obtain ⟨t188, h_t188, h⟩ := bnd h
                cases h
                refine w_seq ((w_ret (andX (callI (aI (vI rfl) (aI (vI rfl) (aI (vI rfl) a0))) rfl (k__law_refusals h_t186)) h_t188 (fun _ _ hq => (by obtain ⟨t187, h_t187, hq⟩ := bnd hq; have hq := Option.some.inj hq; subst hq; exact (callI (aI (vI rfl) (aI (vI rfl) (aI cI a0))) rfl (k__law_whole h_t187))))) ?_))
                exact rfl
            · subst hs
              cases h
              exact hr
          · subst hs
            cases h
            exact hr
        · refine ((w_if (b := (decide ((9 : Int) < size_))) (bang (binX (vI rfl) cI rfl rfl e_qgt)) (fun hc145 => ?_) (fun hc145 => ?_)))
          · rw [if1 hc145] at h
            obtain ⟨is189, h_is189, h⟩ := bnd h
            obtain ⟨asks194, h_t193, h⟩ := bnd h
            refine w_seq ((t_setL (f := PyData.int) (v := asks194) (w := asks194) rfl (lcX (enc := PyData.int) (encB := PyData.int) h_t193 (rng1I cI h_is189) rfl (fun x190 _ => ⟨_, rfl, rfl, fun _ hq => (by have hq := Option.some.inj hq; subst hq; rfl), fun _ _ hq => (by obtain ⟨t191, h_t191, hq⟩ := bnd hq; obtain ⟨t192, h_t192, hq⟩ := bnd hq; have hq := Option.some.inj hq; subst hq; exact ⟨_, (binX (cbX (dX (binX (vI rfl) (binX cI (vI rfl) rfl rfl e_add) rfl rfl (o_ixL (f := PyData.int) (l := row2) h_t191)) d0 rfl) o_int) (binX (vI rfl) cI rfl rfl e_add) rfl rfl (o_mod h_t192)), rfl, rfl⟩)⟩)) rfl ?_))
            show wS _ [im ((ls PyData.int) script), im ((ls PyData.int) row2), im (PyData.int size_), im ((tp PyData.int) tree126), im ((ls (ls PyData.int)) ups128), im ((ls PyData.int) asks194), im ((ls (p2 PyData.int PyData.int)) pairs144), none, none, none, none] _
            obtain ⟨is195, h_is195, h⟩ := bnd h
            obtain ⟨pairs202, h_t201, h⟩ := bnd h
            refine w_seq ((t_setL (f := (p2 PyData.int PyData.int)) (v := pairs202) (w := pairs202) rfl (lcX (enc := PyData.int) (encB := (p2 PyData.int PyData.int)) h_t201 (rng1I cI h_is195) rfl (fun x196 _ => ⟨_, rfl, rfl, fun _ hq => (by have hq := Option.some.inj hq; subst hq; rfl), fun _ _ hq => (by obtain ⟨t197, h_t197, hq⟩ := bnd hq; obtain ⟨t198, h_t198, hq⟩ := bnd hq; obtain ⟨t199, h_t199, hq⟩ := bnd hq; obtain ⟨t200, h_t200, hq⟩ := bnd hq; have hq := Option.some.inj hq; subst hq; exact ⟨_, (tupI (aI (binX (cbX (dX (binX (vI rfl) (binX cI (vI rfl) rfl rfl e_add) rfl rfl (o_ixL (f := PyData.int) (l := row2) h_t197)) d0 rfl) o_int) (binX (vI rfl) cI rfl rfl e_add) rfl rfl (o_mod h_t198)) (aI (binX (cbX (dX (binX (vI rfl) (binX cI (vI rfl) rfl rfl e_add) rfl rfl (o_ixL (f := PyData.int) (l := row2) h_t199)) d0 rfl) o_int) (binX (vI rfl) cI rfl rfl e_add) rfl rfl (o_mod h_t200)) a0)) (Nat.le_of_ble_eq_true rfl)), rfl, rfl⟩)⟩)) rfl ?_))
            show wS _ [im ((ls PyData.int) script), im ((ls PyData.int) row2), im (PyData.int size_), im ((tp PyData.int) tree126), im ((ls (ls PyData.int)) ups128), im ((ls PyData.int) asks194), im ((ls (p2 PyData.int PyData.int)) pairs202), none, none, none, none] _
            refine w_nx ?_
            exact ⟨(asks194, pairs202), rfl, h⟩
          · rw [if0 hc145] at h
            refine w_nx ?_
            exact ⟨(asks137, pairs144), rfl, h⟩
  · refine ((w_if (b := (decide ((9 : Int) < (t5 % (12 : Int))))) (bang (binX (binX (cbX (dX (binX (vI rfl) cI rfl rfl (o_ixL (f := PyData.int) (l := row2) h_t5)) d0 rfl) o_int) cI rfl rfl (e_mod (by decide))) cI rfl rfl e_qgt)) (fun hc6 => ?_) (fun hc6 => ?_)))
    · rw [if1 hc6] at h
      obtain ⟨t203, h_t203, h⟩ := bnd h
      obtain ⟨size204, h_size204, h⟩ := bnd h
      refine (t_set (f := PyData.int) (v := ((24 : Int) + ((16 : Int) * ((t203 % (12 : Int)) - (10 : Int))))) (w := size204) h_size204 (binX cI (binX cI (binX (binX (cbX (dX (binX (vI rfl) cI rfl rfl (o_ixL (f := PyData.int) (l := row2) h_t203)) d0 rfl) o_int) cI rfl rfl (e_mod (by decide))) cI rfl rfl e_sub) rfl rfl (e_mul (.inl (by decide)))) rfl rfl e_add) rfl ?_)
      exact ⟨size204, rfl, h⟩
    · rw [if0 hc6] at h
      refine w_nx ?_
      exact ⟨size4, rfl, h⟩
end K02
namespace DL
open PySem PySem.Spec PyProof.Rows L2
def sh (w : Nat) (f : Int) (row : List Int) : Int := if w ≤ row.length ∧ f ≤ gv row w then gv row w + 1 else f
def srow (w : Nat) (f : Int) (row : List Int) : List Int := (row.filter fun m => decide (sh w f row ≤ m)) ++ [sh w f row]
section
variable (W : Nat → Nat) (F : Nat → Int) (p : Nat → Nat) (n : Nat)
def rwo (v : Nat) (mem : List Int) : List Int := srow (W v) (F v) (downI mem)
/-- what lies below u once k versions are gone through, from the last one on -/
def bl : Nat → Nat → List Int
  | 0, _ => []
  | k + 1, u => if u = p (n - k) then bl k u ++ rwo W F (n - k) (bl k (n - k)) else bl k u
def row (v : Nat) : List Int := rwo W F v (bl W F p n (n - v) v)
end
end DL
namespace DL
open PySem PySem.Spec PyProof.Rows L2
def lx : List Int → List Int → Prop
  | [], _ => True
  | _ :: _, [] => False
  | x :: xs, y :: ys => x < y ∨ (x = y ∧ lx xs ys)
end DL
namespace DL
open PySem PySem.Spec PyProof.Rows L2
abbrev Par (p : Nat → Nat) (n : Nat) : Prop := ∀ v, 1 ≤ v → v ≤ n → p v < v
section
variable (p : Nat → Nat) (h : Nat → Int)
/-- from u up to v nobody is higher than t -/
def opB (v : Nat) (t : Int) : Nat → Nat → Bool
  | 0, u => u == v
  | k + 1, u => u == v || (decide (v < u) && (decide (h (p u) ≤ t) && opB v t k (p u)))
def op (v : Nat) (t : Int) (u : Nat) : Bool := opB p h v t u u
end
section
variable {p : Nat → Nat} {h : Nat → Int} {n : Nat} (hp : Par p n)
include hp
theorem opB_more {v : Nat} {t : Int} : ∀ (u k : Nat), u ≤ n → u ≤ k → opB p h v t k u = opB p h v t u u := by
  intro u
  induction u using Nat.strongRecOn with
  | ind u ih =>
    intro k hu hk
    by_cases z : u = 0
    · subst z
      cases k with
      | zero => rfl
      | succ k =>
        show ((0 == v) || (decide (v < 0) && _)) = (0 == v)
        simp
    · obtain ⟨k, rfl⟩ : ∃ j, k = j + 1 := ⟨k - 1, by omega⟩
      obtain ⟨u, rfl⟩ : ∃ j, u = j + 1 := ⟨u - 1, by omega⟩
      have l := hp (u + 1) (by omega) hu
      show (_ || (_ && (_ && opB p h v t k (p (u + 1))))) = (_ || (_ && (_ && opB p h v t u (p (u + 1)))))
      rw [ih (p (u + 1)) l k (by omega) (by omega), ih (p (u + 1)) l u (by omega) (by omega)]
theorem op_eq {v u : Nat} {t : Int} (h1 : 1 ≤ u) (h2 : u ≤ n) : op p h v t u = (u == v || (decide (v < u) && (decide (h (p u) ≤ t) && op p h v t (p u)))) := by
  obtain ⟨u, rfl⟩ : ∃ j, u = j + 1 := ⟨u - 1, by omega⟩
  have l := hp (u + 1) (by omega) h2
  unfold op
  rw [← opB_more hp (h := h) (v := v) (t := t) (p (u + 1)) u (by omega) (by omega)]
  rfl
theorem op_ge {v t} : ∀ u, u ≤ n → op p h v t u = true → v ≤ u := by
  intro u
  cases u with
  | zero =>
    intro _ z
    have e : (0 == v) = true := z
    have := eq_of_beq e
    omega
  | succ u =>
    intro hu z
    rw [op_eq hp (by omega) hu, Bool.or_eq_true, Bool.and_eq_true] at z
    rcases z with z | z
    · have := eq_of_beq z
      omega
    · have := of_decide_eq_true z.1
      omega
end
end DL
namespace DL
open PySem PySem.Spec PyProof.Rows L2
section
variable (p : Nat → Nat) (h : Nat → Int)
def anB (v : Nat) : Nat → Nat → Bool
  | 0, u => u == v
  | k + 1, u => if v < u then anB v k (p u) else u == v
def anF (v u : Nat) : Bool := anB p v u u
end
section
variable {p : Nat → Nat} {h : Nat → Int} {n : Nat} (hp : Par p n)
include hp
theorem anB_more {v : Nat} : ∀ (u k : Nat), u ≤ n → u ≤ k → anB p v k u = anB p v u u := by
  intro u
  induction u using Nat.strongRecOn with
  | ind u ih =>
    intro k hu hk
    cases u with
    | zero =>
      cases k with
      | zero => rfl
      | succ k => exact if_neg (by omega)
    | succ u =>
      obtain ⟨k, rfl⟩ : ∃ j, k = j + 1 := ⟨k - 1, by omega⟩
      have l := hp (u + 1) (by omega) hu
      show (if _ then anB p v k (p (u + 1)) else _) = (if _ then anB p v u (p (u + 1)) else _)
      rw [ih (p (u + 1)) l k (by omega) (by omega), ih (p (u + 1)) l u (by omega) (by omega)]
theorem anF_eq {v u : Nat} (h1 : 1 ≤ u) (h2 : u ≤ n) : anF p v u = if v < u then anF p v (p u) else u == v := by
  obtain ⟨u, rfl⟩ : ∃ j, u = j + 1 := ⟨u - 1, by omega⟩
  have l := hp (u + 1) (by omega) h2
  unfold anF
  rw [← anB_more hp (v := v) (p (u + 1)) u (by omega) (by omega)]
  rfl
theorem an_low {v u : Nat} (h : u < v) (hu : u ≤ n) : anF p v u = false := by
  cases u with
  | zero =>
    show (0 == v) = false
    simp
    omega
  | succ u =>
    rw [anF_eq hp (by omega) hu, if_neg (by omega)]
    simp
    omega
end
end DL
namespace DL
open PySem PySem.Spec PyProof.Rows L2
section
variable {α β γ σ ρ τ X : Type}
theorem bs {o : Option α} {k : α → Option β} {a : α} {b : Option β} (h : o = some a) (q : k a = b) : o.bind k = b := by rw [h]; exact q
theorem bsX {o : Option α} {k : α → Option β} {a : α} {Q : β → Prop} (h : o = some a) (q : ∃ b, k a = some b ∧ Q b) : ∃ b, o.bind k = some b ∧ Q b := by
  rw [h]; exact q
theorem iT {c : Bool} {a b r : α} (h : c = true) (q : a = r) : (if c = true then a else b) = r := by rw [if_pos h]; exact q
theorem iF {c : Bool} {a b r : α} (h : c = false) (q : b = r) : (if c = true then a else b) = r := by rw [if_neg (by rw [h]; exact Bool.false_ne_true)]; exact q
theorem iTX {c : Bool} {a b : Option α} {Q : α → Prop} (h : c = true) (q : ∃ r, a = some r ∧ Q r) : ∃ r, (if c = true then a else b) = some r ∧ Q r := by rw [if_pos h]; exact q
theorem iFX {c : Bool} {a b : Option α} {Q : α → Prop} (h : c = false) (q : ∃ r, b = some r ∧ Q r) : ∃ r, (if c = true then a else b) = some r ∧ Q r := by rw [if_neg (by rw [h]; exact Bool.false_ne_true)]; exact q
theorem orF1 {q : Bool} {o : Option Bool} (h : o = some q) : orO false o = some q := h
theorem andTT {p : Bool} {o : Option Bool} (h1 : p = true) (h : o = some true) : andO p o = some true := by rw [h1]; exact h
theorem atI_nn {l : List α} {k : Nat} : atI l (k : Int) = l[k]? := atI_nat l k
theorem atI_gv [Inhabited α] {l : List α} {v : Nat} (h1 : 1 ≤ v) (h2 : v ≤ l.length) : atI l ((v : Int) - 1) = some (gv l v) := by
  rw [show ((v : Int) - 1) = ((v - 1 : Nat) : Int) by omega, atI_nn, gv_get (by omega), Nat.sub_add_cancel h1]
theorem gv_iN {P : List Nat} {v : Nat} (h1 : 1 ≤ v) (h2 : v ≤ P.length) : gv (iN P) v = ((gv P v : Nat) : Int) := by
  have z := gv_get (l := iN P) (k := v - 1) (by unfold iN; rw [List.length_map]; omega)
  have y := gv_get (l := P) (k := v - 1) (by omega)
  rw [Nat.sub_add_cancel h1] at z y
  unfold iN at z
  rw [List.getElem?_map, y] at z
  exact (Option.some.inj z).symm
theorem len_iN {P : List Nat} : (iN P).length = P.length := List.length_map _
theorem atI_iN {P : List Nat} {v : Nat} (h1 : 1 ≤ v) (h2 : v ≤ P.length) : atI (iN P) ((v : Int) - 1) = some ((gv P v : Nat) : Int) := by
  rw [atI_gv h1 (by rw [len_iN]; exact h2), gv_iN h1 h2]
theorem atI_rg {f : Nat → α} {n k : Nat} (h : k < n) : atI ((List.range n).map f) (k : Int) = some (f k) := by
  rw [atI_nn, List.getElem?_map, List.getElem?_range h]
  rfl
theorem gv_rg [Inhabited α] {f : Nat → α} {n v : Nat} (h1 : 1 ≤ v) (h2 : v ≤ n) : gv ((List.range n).map f) v = f (v - 1) := by
  have z := gv_get (l := (List.range n).map f) (k := v - 1) (by rw [List.length_map, List.length_range]; omega)
  rw [Nat.sub_add_cancel h1, List.getElem?_map, List.getElem?_range (by omega)] at z
  exact (Option.some.inj z).symm
theorem l_rg [Inhabited α] (l : List α) : l = (List.range l.length).map fun k => gv l (k + 1) := by
  refine List.ext_getElem? fun i => ?_
  rw [List.getElem?_map]
  by_cases hi : i < l.length
  · rw [gv_get hi, List.getElem?_range hi]
    rfl
  · rw [List.getElem?_eq_none (by omega), List.getElem?_eq_none (by rw [List.length_range]; omega)]
    rfl
theorem enum_rg [Inhabited α] (l : List α) : enumL l = (List.range l.length).map fun (k : Nat) => ((k : Int), gv l (k + 1)) := by
  refine List.ext_getElem? fun i => ?_
  unfold enumL
  rw [List.getElem?_zipWith, List.getElem?_map]
  by_cases hi : i < l.length
  · rw [gv_get hi, List.getElem?_range hi]
    rfl
  · rw [List.getElem?_eq_none (l := List.range l.length) (by rw [List.length_range]; omega)]
    rfl
theorem putO_at {l : List α} {k : Nat} {a : α} (h : k < l.length) : putO l (k : Int) a = some (l.set k a) := by
  unfold putO
  rw [ixN_nat h]
  rfl
theorem appO_ok {l : List α} {a : α} (h : l.length + 1 ≤ 16777216) : appO l a = some (l ++ [a]) := if_pos h
theorem catO_ok {l m : List α} (h : l.length + m.length ≤ 16777216) : catO l m = some (l ++ m) := if_pos h
theorem maxO1_ok {l : List Int} (h : l ≠ []) : maxO1 l = some (maxI l) := if_neg h
theorem repO_ok {a : α} {n : Nat} (h : n ≤ 1000000) : repO [a] ((n : Int) + 1) = some (List.replicate (n + 1) a) := by
  unfold repO
  have e : ((n : Int) + 1).toNat = n + 1 := by omega
  rw [e, if_pos]
  · congr 1
    generalize n + 1 = m
    induction m with
    | zero => rfl
    | succ m ih => rw [List.replicate_succ, List.flatten_cons, ih]; rfl
  · simp only [List.length_cons, List.length_nil, Bool.and_eq_true, decide_eq_true_eq]
    exact ⟨okLen_yes (by omega), ⟨by omega, by omega⟩, okLen_yes (by omega)⟩
theorem rgC_n {m : Int} (h : 0 ≤ m) (h2 : m ≤ 1000001) : rgC m = true := decide_eq_true (by omega)
theorem rngO_1 {n : Nat} (h : n ≤ 1000000) : rngO 1 ((n : Int) + 1) = some ((List.range n).map fun k => ((k + 1 : Nat) : Int)) := by
  unfold rngO
  rw [rgC_n (m := 1) (by omega) (by omega), rgC_n (m := (n : Int) + 1) (by omega) (by omega), if_pos (show (true && true) = true from rfl), show ((n : Int) + 1 - 1).toNat = n by omega]
  congr 1
  refine List.map_congr_left fun k _ => ?_
  omega
theorem rngO_m {m : Nat} (h1 : 1 ≤ m) (h : m ≤ 1000000) : rngO 1 (m : Int) = some ((List.range (m - 1)).map fun k => ((k + 1 : Nat) : Int)) := by
  have z := rngO_1 (n := m - 1) (by omega)
  rwa [show ((m - 1 : Nat) : Int) + 1 = (m : Int) by omega] at z
theorem rng1O_n {n : Nat} (h : n ≤ 1000000) : rng1O (n : Int) = some ((List.range n).map fun (k : Nat) => (k : Int)) := by
  unfold rng1O
  rw [rgC_n (by omega) (by omega), if_pos rfl]
  rfl
theorem forS_n {n : Nat} {f : Nat → X} {S : Nat → σ} {body : X → σ → Option σ} (h : ∀ k, k < n → body (f k) (S k) = some (S (k + 1))) : forS body ((List.range n).map f) (S 0) = some (S n) := by
  have go : ∀ (m a : Nat), a + m = n → forS body ((List.range' a m).map f) (S a) = some (S n) := by
    intro m
    induction m with
    | zero => intro a ha; rw [show a = n by omega]; rfl
    | succ m ih =>
      intro a ha
      rw [List.range'_succ, List.map_cons]
      show (body (f a) (S a)).bind _ = _
      rw [h a (by omega)]
      exact ih (a + 1) (by omega)
  rw [List.range_eq_range']
  exact go n 0 (by omega)
theorem forS_J {n : Nat} {f : Nat → X} (J : Nat → σ → Prop) {body : X → σ → Option σ} {s : σ} (h0 : J 0 s) (h : ∀ k, k < n → ∀ s, J k s → ∃ s', body (f k) s = some s' ∧ J (k + 1) s') : ∃ s', forS body ((List.range n).map f) s = some s' ∧ J n s' := by
  have go : ∀ (m a : Nat) (s : σ), a + m = n → J a s → ∃ s', forS body ((List.range' a m).map f) s = some s' ∧ J n s' := by
    intro m
    induction m with
    | zero => intro a s ha hs; rw [show n = a by omega]; exact ⟨s, rfl, hs⟩
    | succ m ih =>
      intro a s ha hs
      obtain ⟨s1, h1, h2⟩ := h a (by omega) s hs
      obtain ⟨s2, h3, h4⟩ := ih (a + 1) s1 (by omega) h2
      rw [List.range'_succ, List.map_cons]
      refine ⟨s2, ?_, h4⟩
      show (body (f a) s).bind _ = _
      rw [h1]
      exact h3
  rw [List.range_eq_range']
  exact go n 0 s (by omega) h0
theorem forG_all {l : List X} {body : X → Unit → Option (Lp Unit ρ)} (h : ∀ x ∈ l, body x () = some (.nx ())) : forG body l () = some (.nx ()) := by
  induction l with
  | nil => rfl
  | cons a l ih =>
    show (body a ()).bind _ = _
    rw [h a List.mem_cons_self]
    exact ih fun x m => h x (List.mem_cons_of_mem _ m)
theorem thenA {l : List X} {body : X → Unit → Option (Lp Unit ρ)} {rt : ρ → Option τ} {k : Unit → Option τ} {b : Option τ} (h : ∀ x ∈ l, body x () = some (.nx ())) (q : k () = b) : thenL (forG body l ()) rt k = b := by
  rw [thenL_nx (forG_all h)]
  exact q
theorem thenR {n : Nat} {f : Nat → X} {body : X → Unit → Option (Lp Unit ρ)} {rt : ρ → Option τ} {k : Unit → Option τ} {b : Option τ} (h : ∀ k, k < n → body (f k) () = some (.nx ())) (q : k () = b) : thenL (forG body ((List.range n).map f) ()) rt k = b :=
  thenA (fun x m => by
    obtain ⟨k, hk, rfl⟩ := List.mem_map.mp m
    exact h k (List.mem_range.mp hk)) q
theorem whT {c : σ → Option Bool} {body : σ → Option σ} {N : Nat} {s s' : σ} {r : Option σ} (h : c s = some true) (h2 : body s = some s') (q : whS c body N s' = r) : whS c body (N + 1) s = r := by
  show (c s).bind _ = _
  rw [h]
  show (body s).bind _ = _
  rw [h2]
  exact q
theorem whF {c : σ → Option Bool} {body : σ → Option σ} {N : Nat} {s : σ} (h : c s = some false) : whS c body (N + 1) s = some s := by
  show (c s).bind _ = _
  rw [h]
  rfl
theorem lcO_fm {p : X → Option Bool} {g : X → Option β} {p' : X → Bool} {g' : X → β} : ∀ {l : List X}, (∀ a ∈ l, p a = some (p' a)) → (∀ a ∈ l, p' a = true → g a = some (g' a)) → lcO p g l = some ((l.filter p').map g')
  | [], _, _ => rfl
  | a :: l, h1, h2 => by
    have ih := lcO_fm (l := l) (fun x m => h1 x (List.mem_cons_of_mem _ m)) fun x m => h2 x (List.mem_cons_of_mem _ m)
    show (p a).bind _ = _
    rw [h1 a List.mem_cons_self]
    show (if p' a = true then _ else _) = _
    by_cases z : p' a = true
    · rw [if_pos z, h2 a List.mem_cons_self z, List.filter_cons_of_pos z]
      show (lcO p g l).bind _ = _
      rw [ih]
      rfl
    · rw [if_neg z, List.filter_cons_of_neg z]
      exact ih
theorem lcC_fm {p : X → Option Bool} {g : X → Option β} {p' : X → Bool} {g' : X → β} {l : List X} (hl : l.length ≤ 16777216) (h1 : ∀ a ∈ l, p a = some (p' a)) (h2 : ∀ a ∈ l, p' a = true → g a = some (g' a)) : lcC p g l = some ((l.filter p').map g') := by
  unfold lcC
  rw [if_pos hl, lcO_fm h1 h2]
theorem lcC_map {g : X → Option β} {g' : X → β} {l : List X} (hl : l.length ≤ 16777216) (h : ∀ a ∈ l, g a = some (g' a)) : lcC (fun _ => some true) g l = some (l.map g') := by
  rw [lcC_fm (p' := fun _ => true) (g' := g') hl (fun _ _ => rfl) (fun a m _ => h a m), List.filter_eq_self.mpr fun _ _ => rfl]
theorem lcC_rg {n : Nat} {f : Nat → X} {g : X → Option β} {g' : Nat → β} (hl : n ≤ 16777216) (h : ∀ k, k < n → g (f k) = some (g' k)) : lcC (fun _ => some true) g ((List.range n).map f) = some ((List.range n).map g') := by
  unfold lcC
  rw [if_pos (by rw [List.length_map, List.length_range]; exact hl)]
  have go : ∀ l : List Nat, (∀ k ∈ l, k < n) → lcO (fun _ => some true) g (l.map f) = some (l.map g') := by
    intro l
    induction l with
    | nil => intro _; rfl
    | cons a l ih =>
      intro hm
      show (g (f a)).bind _ = _
      rw [h a (hm a List.mem_cons_self)]
      show (lcO _ g (l.map f)).bind _ = _
      rw [ih fun k m => hm k (List.mem_cons_of_mem _ m)]
      rfl
  exact go _ fun k m => List.mem_range.mp m
/-- numbers out of a list of numbers -/
theorem lcC_iN {p : Int → Option Bool} {p' : Nat → Bool} {l : List Nat} (hl : l.length ≤ 16777216) (h1 : ∀ a ∈ l, p (a : Int) = some (p' a)) : lcC p (fun x => some x) (iN l) = some (iN (l.filter p')) := by
  unfold lcC iN
  rw [if_pos (by rw [List.length_map]; exact hl)]
  have go : ∀ l : List Nat, (∀ a ∈ l, p (a : Int) = some (p' a)) → lcO p (fun x => some x) (l.map fun (n : Nat) => (n : Int)) = some ((l.filter p').map fun (n : Nat) => (n : Int)) := by
    intro l
    induction l with
    | nil => intro _; rfl
    | cons a l ih =>
      intro hm
      have ih := ih fun k m => hm k (List.mem_cons_of_mem _ m)
      show (p (a : Int)).bind _ = _
      rw [hm a List.mem_cons_self]
      show (if p' a = true then (lcO p _ _).bind _ else _) = _
      by_cases z : p' a = true
      · rw [if_pos z, List.filter_cons_of_pos z, ih]
        rfl
      · rw [if_neg z, List.filter_cons_of_neg z]
        exact ih
  exact go l h1
theorem cut_from {l : List α} {v : Nat} (h : v ≤ l.length) : cutD l (some (v : Int)) none = l.drop v := by
  unfold cutD
  rw [HT.sIx_nat, HT.sIx_none, show min v l.length = v by omega, List.take_of_length_le (by rw [List.length_drop]; omega)]
theorem cut_to {l : List α} {v : Nat} (h : v ≤ l.length) : cutD l none (some (v : Int)) = l.take v := by
  unfold cutD
  rw [HT.sIx_nat, HT.sIx_none, show min v l.length = v by omega, List.drop_zero, Nat.sub_zero]
end
theorem asc_ext : ∀ {l m : List Nat}, l.Pairwise (· < ·) → m.Pairwise (· < ·) → (∀ x, x ∈ l ↔ x ∈ m) → l = m
  | [], [], _, _, _ => rfl
  | [], b :: m, _, _, h => by have := (h b).mpr List.mem_cons_self; cases this
  | a :: l, [], _, _, h => by have := (h a).mp List.mem_cons_self; cases this
  | a :: l, b :: m, hl, hm, h => by
    have hl' := List.pairwise_cons.mp hl
    have hm' := List.pairwise_cons.mp hm
    have e : a = b := by
      have h1 := (h a).mp List.mem_cons_self
      have h2 := (h b).mpr List.mem_cons_self
      rcases List.mem_cons.mp h1 with z | z
      · exact z
      · rcases List.mem_cons.mp h2 with y | y
        · exact y.symm
        · have := hm'.1 a z
          have := hl'.1 b y
          omega
    subst e
    rw [asc_ext hl'.2 hm'.2 fun x => ?_]
    have hx := h x
    constructor
    · intro z
      rcases List.mem_cons.mp (hx.mp (List.mem_cons_of_mem _ z)) with y | y
      · have := hl'.1 x z
        omega
      · exact y
    · intro z
      rcases List.mem_cons.mp (hx.mpr (List.mem_cons_of_mem _ z)) with y | y
      · have := hm'.1 x z
        omega
      · exact y
theorem asc_fr (n : Nat) (q : Nat → Bool) : ((List.range n).filter q).Pairwise (· < ·) := List.Pairwise.filter _ List.pairwise_lt_range
theorem mem_fr {n x : Nat} {q : Nat → Bool} : x ∈ (List.range n).filter q ↔ x < n ∧ q x = true := by
  rw [List.mem_filter, List.mem_range]
theorem mem_iN' {x : Int} {l : List Nat} : x ∈ iN l ↔ ∃ k ∈ l, x = (k : Int) := by
  unfold iN
  rw [List.mem_map]
  exact ⟨fun ⟨k, h1, h2⟩ => ⟨k, h1, h2.symm⟩, fun ⟨k, h1, h2⟩ => ⟨k, h1, h2.symm⟩⟩
end DL
namespace DL
open PySem PySem.Spec PyProof.Rows L2
def upL (p : Nat → Nat) : Nat → Nat → List Nat
  | 0, _ => []
  | k + 1, u => if u = 0 then [] else p u :: upL p k (p u)
def pathL (p : Nat → Nat) (n v : Nat) : List Nat := (List.range (n + 1)).filter fun x => decide (0 < x) && anF p x v
theorem upL_len {p : Nat → Nat} : ∀ k u, (upL p k u).length ≤ k
  | 0, _ => Nat.le_refl _
  | k + 1, u => by
    unfold upL
    split
    · exact Nat.zero_le _
    · have := upL_len (p := p) k (p u)
      rw [List.length_cons]
      omega
section
variable {p : Nat → Nat} {n : Nat} (hp : Par p n)
include hp
theorem an_self {v : Nat} (hv : v ≤ n) : anF p v v = true := by
  by_cases z : v = 0
  · subst z
    rfl
  · rw [anF_eq hp (by omega) hv, if_neg (by omega)]
    simp
theorem an_le {v u : Nat} (hu : u ≤ n) (h : anF p v u = true) : v ≤ u := by
  by_cases z : u < v
  · rw [an_low hp z hu] at h
    cases h
  · omega
theorem an_up {v u : Nat} (h1 : v < u) (hu : u ≤ n) : anF p v u = anF p v (p u) := by rw [anF_eq hp (by omega) hu, if_pos h1]
theorem mem_upL {x : Nat} : ∀ (k u : Nat), u ≤ n → u ≤ k → (x ∈ upL p k u ↔ x < u ∧ anF p x u = true)
  | 0, u, hu, hk => by
    constructor
    · intro h; cases h
    · intro h; omega
  | k + 1, u, hu, hk => by
    unfold upL
    by_cases z : u = 0
    · rw [if_pos z]
      constructor
      · intro h; cases h
      · intro h; omega
    · have l := hp u (by omega) hu
      rw [if_neg z, List.mem_cons, mem_upL k (p u) (by omega) (by omega)]
      constructor
      · rintro (h | ⟨h1, h2⟩)
        · subst h
          exact ⟨l, by rw [an_up hp l hu]; exact an_self hp (by omega)⟩
        · exact ⟨by omega, by rw [an_up hp (by omega) hu]; exact h2⟩
      · rintro ⟨h1, h2⟩
        rw [an_up hp h1 hu] at h2
        have := an_le hp (by omega) h2
        by_cases e : x = p u
        · exact .inl e
        · exact .inr ⟨by omega, h2⟩
theorem desc_upL : ∀ (k u : Nat), u ≤ n → u ≤ k → (upL p k u).Pairwise (· > ·)
  | 0, _, _, _ => List.Pairwise.nil
  | k + 1, u, hu, hk => by
    unfold upL
    by_cases z : u = 0
    · rw [if_pos z]
      exact List.Pairwise.nil
    · have l := hp u (by omega) hu
      rw [if_neg z]
      refine List.pairwise_cons.mpr ⟨fun x hx => ?_, desc_upL k (p u) (by omega) (by omega)⟩
      exact ((mem_upL hp k (p u) (by omega) (by omega)).mp hx).1
theorem path_eq {v : Nat} (hv : v ≤ n) : (v :: upL p v v).reverse.filter (fun x => decide (0 < x)) = pathL p n v := by
  refine asc_ext ?_ (asc_fr _ _) fun x => ?_
  · refine List.Pairwise.filter _ (List.pairwise_reverse.mpr (List.pairwise_cons.mpr ⟨fun x hx => ?_, desc_upL hp v v hv (Nat.le_refl _)⟩))
    exact ((mem_upL hp v v hv (Nat.le_refl _)).mp hx).1
  · unfold pathL
    rw [List.mem_filter, List.mem_reverse, List.mem_cons, mem_upL hp v v hv (Nat.le_refl _), mem_fr, Bool.and_eq_true, decide_eq_true_eq]
    constructor
    · rintro ⟨h | ⟨h1, h2⟩, h3⟩
      · subst h
        exact ⟨by omega, h3, an_self hp hv⟩
      · exact ⟨by omega, h3, h2⟩
    · rintro ⟨h1, h2, h3⟩
      have := an_le hp hv h3
      by_cases e : x = v
      · exact ⟨.inl e, h2⟩
      · exact ⟨.inr ⟨by omega, h3⟩, h2⟩
end
end DL
namespace DL
open PySem PySem.Spec PyProof.Rows L2
end DL
namespace DL
open PySem PySem.Spec PyProof.Rows L2
theorem andTT' {p q : Bool} {o : Option Bool} (h1 : p = true) (h : o = some q) : andO p o = some q := by rw [h1]; exact h
theorem gv_last' {α : Type} [Inhabited α] (l : List α) (a : α) : gv (l ++ [a]) (l.length + [a].length) = a := by
  have := gv_get (l := l ++ [a]) (k := l.length) (by simp)
  rw [List.getElem?_append_right (Nat.le_refl _), Nat.sub_self] at this
  exact (Option.some.inj this).symm
end DL
namespace DL
open PySem PySem.Spec PyProof.Rows L2
structure OkB (n : Nat) (R : Int) (ws : List (Nat × Int)) : Prop where
  r1 : 1 ≤ R
  r2 : R ≤ 999
  len : ws.length = n
  all : ∀ x ∈ ws, 1 ≤ x.1 ∧ x.1 ≤ 999 ∧ 1 ≤ x.2 ∧ x.2 ≤ R
section
variable {P : List Nat} {R : Int} {ws : List (Nat × Int)} (O : OkB P.length R ws) (few : P.length ≤ 100)
include O few
theorem OkB.w {v : Nat} (h1 : 1 ≤ v) (h2 : v ≤ P.length) : 1 ≤ (gv ws v).1 ∧ (gv ws v).1 ≤ 999 := by
  have := O.all _ (gv_mem (l := ws) h1 (by rw [O.len]; exact h2))
  exact ⟨this.1, this.2.1⟩
end
end DL
namespace DL
open PySem PySem.Spec PyProof.Rows L2
end DL
namespace DL
open PySem
end DL
namespace DL
def aftL : List Nat → Nat → List Nat
  | [], _ => [1]
  | _ :: _, 0 => []
  | x :: xs, u + 1 => if xs = List.replicate u x then [x + 1] else x :: aftL xs u
abbrev aft (u : Nat) (m : List Nat) : List Nat := aftL m u
end DL
namespace DL
open PySem PySem.Spec PyProof.Rows L2
end DL
namespace DL
open PySem PySem.Spec PyProof.Rows L2
end DL
namespace DL
open PySem PySem.Spec PyProof.Rows L2
theorem divO_ok {i j : Int} (h : 0 < j) (h2 : j < 1073741824) : divO i j = some (i / j) := if_pos ⟨h, log_few h h2⟩
theorem iN_app (l m : List Nat) : iN l ++ iN m = iN (l ++ m) := by
  unfold iN
  rw [List.map_append]
/-- a while loop by an invariant and a measure -/
theorem whS_J {σ : Type} (J : σ → Prop) (μ : σ → Nat) {c : σ → Option Bool} {body : σ → Option σ} (h : ∀ s, J s → ∃ b, c s = some b ∧ (b = true → ∃ s', body s = some s' ∧ J s' ∧ μ s' < μ s)) : ∀ (N : Nat) (s : σ), J s → μ s < N → ∃ s', whS c body N s = some s' ∧ J s' ∧ c s' = some false
  | 0, s, _, hm => absurd hm (Nat.not_lt_zero _)
  | N + 1, s, hJ, hm => by
    obtain ⟨b, hb, hs⟩ := h s hJ
    cases b with
    | false => exact ⟨s, whF hb, hJ, hb⟩
    | true =>
      obtain ⟨s1, h1, h2, h3⟩ := hs rfl
      obtain ⟨s', q1, q2, q3⟩ := whS_J J μ h N s1 h2 (by omega)
      exact ⟨s', whT hb h1 q1, q2, q3⟩
end DL
namespace DL
open PySem PySem.Spec PyProof.Rows L2
theorem rgLO_0 {l : Nat} (h : l ≤ 1000000) : rgLO 0 (l : Int) = some (iN (List.range l)) := by
  unfold rgLO
  rw [if_pos (by
    unfold rgOkB
    simp only [Bool.and_eq_true, decide_eq_true_eq]
    omega), show ((l : Int) - 0).toNat = l by omega]
  congr 1
  refine List.map_congr_left fun k _ => ?_
  omega
theorem ix_tup {l : List PyData} {k : Nat} (h : k < l.length) : vD (p_ix (.tuple l) (.int (k : Int))) = some l[k] := by
  have q := o_ixT (f := idD) (l := l) (i := (k : Int)) (a := l[k]) (by rw [atI_nn]; exact List.getElem?_eq_getElem h)
  have e : tp idD l = .tuple l := congrArg PyData.tuple (List.map_id' l)
  rw [e] at q
  rw [q]
  rfl
theorem len_tup (l : List PyData) : iD (c_len [.tuple l]) = some (l.length : Int) := rfl
theorem modO_ok {i j : Int} (h : 0 < j) : modO i j = some (i % j) := if_pos h
end DL
namespace K02
open PySem PySem.Spec PyProof.Rows L2 DL
theorem q_is_number (i : Int) : f_is_number i = some (decide (0 ≤ i)) := rfl
theorem q_check {P : List Nat} {v : Nat} {w : Str} (h : v ≤ P.length) : f_check_version (iN P) w (v : Int) 0 = some () := by
  unfold f_check_version
  refine bs (q_is_number _) (iF ?_ rfl)
  rw [len_iN, decide_eq_true (by omega : (0 : Int) ≤ (v : Int)), decide_eq_true (by omega : (v : Int) ≤ (P.length : Int))]
  rfl
theorem q_many {P : List Nat} : f_many_of (iN P) = some (P.length : Int) := by unfold f_many_of; rw [len_iN]
section
variable {P : List Nat} (hp : Par (gv P) P.length) (few : P.length ≤ 1000)
include hp few
theorem q_upward {v : Nat} (hv : v ≤ P.length) : f_upward (iN P) (v : Int) = some (iN (upL (gv P) v v)) := by
  have go : ∀ (k u N : Nat) (acc : List Int), u ≤ k → u ≤ P.length → u < N → acc.length + u ≤ 2000 →
      whS (fun s : Int × List Int => f_upward_L1c (iN P) s.1 s.2) (fun s : Int × List Int => f_upward_L1 (iN P) s.1 s.2) N ((u : Int), acc) = some ((0 : Int), acc ++ iN (upL (gv P) k u)) := by
    intro k
    induction k with
    | zero =>
      intro u N acc hu hn hN ha
      obtain ⟨N, rfl⟩ : ∃ m, N = m + 1 := ⟨N - 1, by omega⟩
      rw [whF (by show some (decide ((0 : Int) < (u : Int))) = _; rw [decide_eq_false (by omega)])]
      rw [show u = 0 by omega]
      show some ((0 : Int), acc) = some ((0 : Int), acc ++ [])
      rw [List.append_nil]
    | succ k ih =>
      intro u N acc hu hn hN ha
      obtain ⟨N, rfl⟩ : ∃ m, N = m + 1 := ⟨N - 1, by omega⟩
      by_cases z : u = 0
      · subst z
        rw [whF (by show some (decide ((0 : Int) < ((0 : Nat) : Int))) = _; rfl)]
        show some ((0 : Int), acc) = some ((0 : Int), acc ++ [])
        rw [List.append_nil]
      · have l := hp u (by omega) hn
        refine whT (s' := (((gv P u : Nat) : Int), acc ++ [((gv P u : Nat) : Int)])) (by show some (decide ((0 : Int) < (u : Int))) = _; rw [decide_eq_true (by omega)]) (bs (atI_iN (by omega) hn) (bs (appO_ok (l := acc) (by omega)) rfl)) ?_
        rw [ih (gv P u) N _ (by omega) (by omega) (by omega) (by rw [List.length_append, List.length_singleton]; omega)]
        have e : upL (gv P) (k + 1) u = gv P u :: upL (gv P) k (gv P u) := if_neg z
        rw [e, List.append_assoc]
        rfl
  unfold f_upward
  refine bs rfl (bs (go v v _ [] (Nat.le_refl _) hv (by omega) (by show 0 + v ≤ 2000; omega)) ?_)
  rfl
theorem q_path {v : Nat} (hv : v ≤ P.length) : f_path_of (iN P) (v : Int) = some (iN (pathL (gv P) P.length v)) := by
  unfold f_path_of
  refine bs (q_check hv) (bs (q_upward hp few hv) ?_)
  have ul := upL_len (p := gv P) v v
  refine bs (catO_ok (by rw [len_iN]; show 1 + _ ≤ _; omega)) ?_
  have e : ([((v : Nat) : Int)] ++ iN (upL (gv P) v v)).reverse = iN (v :: upL (gv P) v v).reverse := by
    unfold iN
    rw [List.map_reverse]
    rfl
  rw [e]
  refine bs (lcC_iN (p' := fun x => decide (0 < x)) (by rw [List.length_reverse, List.length_cons]; omega) fun a _ => ?_) ?_
  · congr 1
    exact decide_eq_decide.mpr (by omega)
  · rw [path_eq hp hv]
theorem q_is_elder {x v : Nat} (hx : x ≤ P.length) (hv : v ≤ P.length) : f_is_elder (iN P) (x : Int) (v : Int) = some (decide (x < v) && anF (gv P) x v) := by
  unfold f_is_elder
  refine bs (q_check hx) (bs (q_check hv) (bs (q_upward hp few hv) ?_))
  congr 1
  rw [Bool.eq_iff_iff, decide_eq_true_eq, Bool.and_eq_true, decide_eq_true_eq, mem_iN, mem_upL hp v v hv (Nat.le_refl _)]
theorem q_branch {v : Nat} (hv : v ≤ P.length) : f_branch_of (iN P) (v : Int) = some (iN ((List.range (P.length + 1)).filter (anF (gv P) v))) := by
  unfold f_branch_of
  refine bs (q_check hv) ?_
  rw [len_iN]
  refine bs (repO_ok (by omega)) ?_
  refine bs (putO_at (by rw [List.length_replicate]; omega)) ?_
  obtain ⟨S, hS⟩ : ∃ S : Nat → List Bool, S = fun k => (List.range (P.length + 1)).map fun u => decide (u = v) || (decide (u ≤ k) && anF (gv P) v u) := ⟨_, rfl⟩
  have s0 : (List.replicate (P.length + 1) false).set v true = S 0 := by
    rw [hS]
    refine List.ext_getElem? fun i => ?_
    rw [List.getElem?_map]
    by_cases hi : i < P.length + 1
    · rw [List.getElem?_range hi, List.getElem?_set]
      by_cases z : v = i
      · subst z
        rw [if_pos rfl, if_pos (by rw [List.length_replicate]; exact hi), Option.map_some, decide_eq_true rfl]
        rfl
      · rw [if_neg z, List.getElem?_replicate, if_pos hi, Option.map_some, decide_eq_false (fun y => z y.symm)]
        congr 1
        by_cases y : i ≤ 0
        · rw [show i = 0 by omega, an_low hp (by omega) (by omega)]
          rfl
        · rw [decide_eq_false y]
          rfl
    · rw [List.getElem?_eq_none (by rw [List.length_set, List.length_replicate]; omega), List.getElem?_eq_none (by rw [List.length_range]; omega)]
      rfl
  rw [s0]
  have en : enumL (iN P) = (List.range P.length).map fun (k : Nat) => ((k : Int), ((gv P (k + 1) : Nat) : Int)) := by
    rw [enum_rg, len_iN]
    refine List.map_congr_left fun k hk => ?_
    have := List.mem_range.mp hk
    rw [gv_iN (by omega) (by omega)]
  rw [en]
  refine bs (forS_n (S := S) fun k hk => ?_) ?_
  · have l := hp (k + 1) (by omega) (by omega)
    have g1 : atI (S k) ((gv P (k + 1) : Nat) : Int) = some (anF (gv P) v (gv P (k + 1))) := by
      rw [hS]
      rw [atI_rg (by omega)]
      congr 1
      by_cases z : gv P (k + 1) = v
      · rw [decide_eq_true z, z, an_self hp (by omega)]
        rfl
      · rw [decide_eq_false z, decide_eq_true (by omega : gv P (k + 1) ≤ k), Bool.false_or, Bool.true_and]
    unfold f_branch_of_L1
    refine bs g1 ?_
    have nx : ∀ b, (b = true → anF (gv P) v (gv P (k + 1)) = true) → (b = false → anF (gv P) v (gv P (k + 1)) = false) → (if b = true then (S k).set (k + 1) true else S k) = S (k + 1) := fun b h1 h2 => by
      have ae := anF_eq hp (v := v) (u := k + 1) (by omega) (by omega)
      rw [hS]
      refine List.ext_getElem? fun i => ?_
      have gi : ∀ j, j < P.length + 1 → ((List.range (P.length + 1)).map fun u => decide (u = v) || (decide (u ≤ k) && anF (gv P) v u))[j]? = some (decide (j = v) || (decide (j ≤ k) && anF (gv P) v j)) := fun j hj => by
        rw [List.getElem?_map, List.getElem?_range hj]
        rfl
      by_cases hi : i < P.length + 1
      · rw [List.getElem?_map, List.getElem?_range hi, Option.map_some]
        cases b with
        | true =>
          rw [if_pos rfl, List.getElem?_set]
          by_cases z : k + 1 = i
          · subst z
            rw [if_pos rfl, if_pos (by rw [List.length_map, List.length_range]; omega)]
            congr 1
            by_cases y : v < k + 1
            · rw [if_pos y, h1 rfl] at ae
              rw [ae, decide_eq_true (Nat.le_refl _)]
              simp
            · have := h1 rfl
              rw [an_low hp (by omega) (by omega)] at this
              cases this
          · rw [if_neg z, gi i hi]
            congr 3
            exact decide_eq_decide.mpr (by omega)
        | false =>
          rw [if_neg Bool.false_ne_true, gi i hi]
          by_cases z : k + 1 = i
          · subst z
            congr 1
            rw [decide_eq_false (by omega : ¬ k + 1 ≤ k), decide_eq_true (Nat.le_refl (k + 1)), ae]
            by_cases y : v < k + 1
            · rw [if_pos y, h2 rfl]
              simp
            · rw [if_neg y]
              simp
          · congr 3
            exact decide_eq_decide.mpr (by omega)
      · rw [List.getElem?_eq_none (l := (List.range (P.length + 1)).map fun u => decide (u = v) || (decide (u ≤ k + 1) && anF (gv P) v u)) (by rw [List.length_map, List.length_range]; omega)]
        refine List.getElem?_eq_none ?_
        split <;> simp <;> omega
    by_cases c : anF (gv P) v (gv P (k + 1)) = true
    · refine iT c ?_
      have := nx true (fun _ => c) (fun z => by cases z)
      rw [if_pos rfl] at this
      have pu : putO (S k) (((k : Nat) : Int) + 1) true = some (S (k + 1)) := by
        rw [show ((k : Nat) : Int) + 1 = ((k + 1 : Nat) : Int) by omega, putO_at (by rw [hS]; simp; omega), this]
      exact bs pu rfl
    · have c := Bool.eq_false_iff.mpr c
      refine iF c ?_
      have := nx false (fun z => by cases z) (fun _ => c)
      rw [if_neg Bool.false_ne_true] at this
      rw [this]
  · have sn : S P.length = (List.range (P.length + 1)).map (anF (gv P) v) := by
      rw [hS]
      refine List.map_congr_left fun u hu => ?_
      have := List.mem_range.mp hu
      rw [decide_eq_true (by omega : u ≤ P.length), Bool.true_and]
      by_cases z : u = v
      · rw [decide_eq_true z, z, an_self hp hv]
        rfl
      · rw [decide_eq_false z]
        rfl
    rw [sn]
    have en2 : enumL ((List.range (P.length + 1)).map (anF (gv P) v)) = (List.range (P.length + 1)).map fun (k : Nat) => ((k : Int), anF (gv P) v k) := by
      rw [enum_rg, List.length_map, List.length_range]
      refine List.map_congr_left fun k hk => ?_
      rw [gv_rg (by omega) (by have := List.mem_range.mp hk; omega)]
      rfl
    rw [en2]
    refine bs (lcC_fm (p' := fun x : Int × Bool => x.2) (g' := fun x : Int × Bool => x.1) (by rw [List.length_map, List.length_range]; omega) (fun _ _ => rfl) fun _ _ _ => rfl) ?_
    congr 1
    unfold iN
    rw [List.filter_map, List.map_map]
    rfl
theorem q_check1 {v : Nat} {w : Str} (h1 : 1 ≤ v) (h : v ≤ P.length) : f_check_version (iN P) w (v : Int) 1 = some () := by
  unfold f_check_version
  refine bs (q_is_number _) (iF ?_ rfl)
  rw [len_iN, decide_eq_true (by omega : (0 : Int) ≤ (v : Int)), decide_eq_true (by omega : (1 : Int) ≤ (v : Int)), decide_eq_true (by omega : (v : Int) ≤ (P.length : Int))]
  rfl
theorem q_parent {v : Nat} (h1 : 1 ≤ v) (h : v ≤ P.length) : f_parent_of (iN P) (v : Int) = some ((gv P v : Nat) : Int) := by
  unfold f_parent_of
  exact bs (q_check1 hp few h1 h) (bs (atI_iN h1 h) rfl)
theorem q_elders {v : Nat} (hv : v ≤ P.length) : f_elders_of (iN P) (v : Int) = some (iN (upL (gv P) v v)) := by
  unfold f_elders_of
  exact bs (q_check hv) (bs (q_upward hp few hv) rfl)
theorem q_depth {v : Nat} (hv : v ≤ P.length) : f_depth_of (iN P) (v : Int) = some ((upL (gv P) v v).length : Int) := by
  unfold f_depth_of
  refine bs (q_check hv) (bs (q_upward hp few hv) ?_)
  rw [len_iN]
theorem en_iN : enumL (iN P) = (List.range P.length).map fun (k : Nat) => ((k : Int), ((gv P (k + 1) : Nat) : Int)) := by
  rw [enum_rg, len_iN]
  refine List.map_congr_left fun k hk => ?_
  have := List.mem_range.mp hk
  rw [gv_iN (by omega) (by omega)]
omit hp few in
/-- children -/
def kidL (P : List Nat) (v : Nat) : List Nat := ((List.range P.length).map (· + 1)).filter fun z => decide (gv P z = v)
theorem q_children {v : Nat} (hv : v ≤ P.length) : f_children_of (iN P) (v : Int) = some (iN (kidL P v)) := by
  unfold f_children_of
  refine bs (q_check hv) ?_
  rw [en_iN hp few]
  refine bs (lcC_fm (p' := fun x => decide (x.2 = (v : Int))) (g' := fun x => x.1 + 1) (by rw [List.length_map, List.length_range]; omega) (fun _ _ => rfl) fun _ _ _ => rfl) ?_
  congr 1
  unfold kidL iN
  rw [List.filter_map, List.map_map, List.filter_map, List.map_map]
  have e : ((fun x : Int × Int => decide (x.2 = (v : Int))) ∘ fun (k : Nat) => ((k : Int), ((gv P (k + 1) : Nat) : Int))) = ((fun z => decide (gv P z = v)) ∘ fun x => x + 1) := by
    funext k
    show decide (((gv P (k + 1) : Nat) : Int) = (v : Int)) = decide (gv P (k + 1) = v)
    exact decide_eq_decide.mpr (by omega)
  rw [e]
  rfl
/-- leaves -/
theorem q_leaves : f_leaves_of (iN P) = some (iN ((List.range (P.length + 1)).filter fun z => !decide (z ∈ P))) := by
  unfold f_leaves_of
  rw [len_iN]
  refine bs (rng1O_n (n := P.length + 1) (by omega)) (bs (a := iN ((List.range (P.length + 1)).filter fun z => !decide (z ∈ P))) ?_ rfl)
  have z := lcC_iN (l := List.range (P.length + 1)) (p := fun x2 => some (!decide (x2 ∈ iN P))) (p' := fun z => !decide (z ∈ P)) (by rw [List.length_range]; omega) fun a _ => by
    congr 2
    exact decide_eq_decide.mpr mem_iN
  exact z
theorem upL_two : ∀ (k l u : Nat), u ≤ P.length → u ≤ k → u ≤ l → upL (gv P) k u = upL (gv P) l u := by
  intro k
  induction k with
  | zero =>
    intro l u hu hk hl
    rw [show u = 0 by omega]
    cases l <;> rfl
  | succ k ih =>
    intro l u hu hk hl
    by_cases z : u = 0
    · subst z
      cases l <;> rfl
    · obtain ⟨l, rfl⟩ : ∃ m, l = m + 1 := ⟨l - 1, by omega⟩
      have lt := hp u (by omega) hu
      show (if u = 0 then [] else gv P u :: upL (gv P) k (gv P u)) = if u = 0 then [] else gv P u :: upL (gv P) l (gv P u)
      rw [if_neg z, if_neg z, ih l _ (by omega) (by omega) (by omega)]
theorem upL_at {v : Nat} (h1 : 1 ≤ v) (h : v ≤ P.length) : upL (gv P) v v = gv P v :: upL (gv P) (gv P v) (gv P v) := by
  obtain ⟨w, rfl⟩ : ∃ w, v = w + 1 := ⟨v - 1, by omega⟩
  have lt := hp (w + 1) (by omega) h
  show (if w + 1 = 0 then [] else gv P (w + 1) :: upL (gv P) w (gv P (w + 1))) = _
  rw [if_neg (by omega), upL_two hp few w _ _ (by omega) (by omega) (Nat.le_refl _)]
/-- depths -/
theorem q_depth_in : f_depth_in (iN P) = maxO1 ((List.range (P.length + 1)).map fun v => ((upL (gv P) v v).length : Int)) := by
  unfold f_depth_in
  refine bs rfl ?_
  have l : iN P = (List.range P.length).map fun k => ((gv P (k + 1) : Nat) : Int) := by
    have z := l_rg (iN P)
    rw [len_iN] at z
    rw [z]
    exact List.map_congr_left fun k hk => by
      have := List.mem_range.mp hk
      exact gv_iN (by omega) (by omega)
  have run := forS_n (n := P.length) (f := fun k => ((gv P (k + 1) : Nat) : Int)) (S := fun k => (List.range (k + 1)).map fun v => ((upL (gv P) v v).length : Int)) (body := fun x_1 depths_ => f_depth_in_L1 (iN P) x_1 depths_) fun k hk => by
    have lt := hp (k + 1) (by omega) (by omega)
    unfold f_depth_in_L1
    refine bs (atI_rg (by omega)) (bs (appO_ok (by rw [List.length_map, List.length_range]; omega)) ?_)
    rw [List.range_succ (n := k + 1), List.map_append]
    show _ = some (_ ++ [((upL (gv P) (k + 1) (k + 1)).length : Int)])
    rw [upL_at hp few (v := k + 1) (by omega) (by omega)]
    rfl
  rw [← l] at run
  have s0 : ([0] : List Int) = (List.range (0 + 1)).map fun v => ((upL (gv P) v v).length : Int) := rfl
  rw [s0]
  refine bs run ?_
  cases maxO1 ((List.range (P.length + 1)).map fun v => ((upL (gv P) v v).length : Int)) <;> rfl
/-- the meet of two -/
theorem q_meet {v w : Nat} (hv : v ≤ P.length) (hw : w ≤ P.length) : ∃ m, f_meet_of (iN P) (v : Int) (w : Int) = some ((m : Nat) : Int) ∧ m ≤ P.length ∧ ∀ x, (anF (gv P) x v = true ∧ anF (gv P) x w = true) ↔ anF (gv P) x m = true := by
  unfold f_meet_of
  obtain ⟨st, w1, ⟨a, b, rfl, la, lb, same⟩, w2⟩ := whS_J (σ := Int × Int) (fun s => ∃ a b : Nat, s = ((a : Int), (b : Int)) ∧ a ≤ P.length ∧ b ≤ P.length ∧ ∀ x, x ≤ P.length → ((anF (gv P) x v = true ∧ anF (gv P) x w = true) ↔ (anF (gv P) x a = true ∧ anF (gv P) x b = true))) (fun s => s.1.toNat + s.2.toNat)
    (c := fun s_ => f_meet_of_L1c (iN P) s_.1 s_.2) (body := fun s_ => f_meet_of_L1 (iN P) s_.1 s_.2) (by
      rintro s ⟨a, b, rfl, la, lb, same⟩
      refine ⟨_, rfl, fun hb => ?_⟩
      have ne : a ≠ b := fun q => by
        subst q
        have hb : (!decide ((a : Int) = (a : Int))) = true := hb
        rw [decide_eq_true rfl] at hb
        cases hb
      by_cases z : b < a
      · have lt := hp a (by omega) la
        refine ⟨(((gv P a : Nat) : Int), (b : Int)), ?_, ⟨gv P a, b, rfl, by omega, lb, fun x hx => ?_⟩, by show ((gv P a : Nat) : Int).toNat + (b : Int).toNat < (a : Int).toNat + (b : Int).toNat; omega⟩
        · exact iT (decide_eq_true (by show (b : Int) < (a : Int); omega)) (bs (atI_iN (by omega) la) rfl)
        · rw [same x hx]
          constructor
          · rintro ⟨h1, h2⟩
            have := an_le hp lb h2
            rw [an_up hp (by omega) la] at h1
            exact ⟨h1, h2⟩
          · rintro ⟨h1, h2⟩
            have := an_le hp lb h2
            rw [an_up hp (by omega) la]
            exact ⟨h1, h2⟩
      · have lt := hp b (by omega) lb
        refine ⟨((a : Int), ((gv P b : Nat) : Int)), ?_, ⟨a, gv P b, rfl, la, by omega, fun x hx => ?_⟩, by show (a : Int).toNat + ((gv P b : Nat) : Int).toNat < (a : Int).toNat + (b : Int).toNat; omega⟩
        · exact iF (decide_eq_false (by show ¬ (b : Int) < (a : Int); omega)) (bs (atI_iN (by omega) lb) rfl)
        · rw [same x hx]
          constructor
          · rintro ⟨h1, h2⟩
            have := an_le hp la h1
            rw [an_up hp (by omega) lb] at h2
            exact ⟨h1, h2⟩
          · rintro ⟨h1, h2⟩
            have := an_le hp la h1
            rw [an_up hp (by omega) lb]
            exact ⟨h1, h2⟩) 3000 ((v : Int), (w : Int)) ⟨v, w, rfl, hv, hw, fun x _ => Iff.rfl⟩ (by show (v : Int).toNat + (w : Int).toNat < _; omega)
  have ab : a = b := by
    have w2 : some (!decide ((a : Int) = (b : Int))) = some false := w2
    have := Option.some.inj w2
    simp only [Bool.not_eq_false', decide_eq_true_eq] at this
    omega
  subst ab
  refine ⟨a, bs (q_check hv) (bs (q_check hw) (bs w1 rfl)), la, fun x => ?_⟩
  by_cases hx : x ≤ P.length
  · rw [same x hx]
    exact ⟨fun q => q.1, fun q => ⟨q, q⟩⟩
  · rw [an_low hp (by omega : a < x) la, an_low hp (by omega : v < x) hv]
    simp
end
end K02
namespace K02
open PySem PySem.Spec PyProof.Rows L2 DL
def Pn : Nat → PyData → Prop
  | _ + 1, .int _ => True
  | _ + 1, .bool _ => True
  | _ + 1, .str s => bD (p_eq (.str s) (.str s)) = some true
  | N + 1, .tuple l => l.length ≤ 1000000 ∧ ∀ x ∈ l, Pn N x
  | _, _ => False
theorem same_self : ∀ (N : Nat) (d : PyData), Pn N d → f_w_same_R N d d = some true
  | 0, _, h => h.elim
  | N + 1, .int i, _ => by
    show f_w_same_B (f_w_same_R N) _ _ = _
    unfold f_w_same_B
    have e : bD (p_eq (.int i) (.int i)) = some true := by
      rw [bD_eq (f := PyData.int) (by decide), decide_eq_true rfl]
    exact bs (a := false) rfl (iF rfl (bs (a := false) rfl (iF rfl (bs (a := false) rfl (bs (a := false) (orF1 (bs (a := false) rfl (bs (a := false) rfl rfl))) (iF rfl (bs (a := true) rfl (bs (a := true) (andTT rfl (bs e rfl)) rfl))))))))
  | N + 1, .bool b, _ => by
    show f_w_same_B (f_w_same_R N) _ _ = _
    unfold f_w_same_B
    have e : bD (p_eq (.bool b) (.bool b)) = some true := by
      rw [bD_eq (f := PyData.bool) (by decide), decide_eq_true rfl]
    exact bs (a := false) rfl (iF rfl (bs (a := false) rfl (iF rfl (bs (a := false) rfl (bs (a := false) (orF1 (bs (a := true) rfl (bs (a := true) rfl rfl))) (iF rfl (bs (a := true) rfl (bs (a := true) (andTT rfl (bs e rfl)) rfl))))))))
  | N + 1, .str s, e => by
    show f_w_same_B (f_w_same_R N) _ _ = _
    unfold f_w_same_B
    exact bs (a := false) rfl (iF rfl (bs (a := true) rfl (iT rfl (bs (a := true) rfl (bs (a := true) (andTT rfl (bs e rfl)) rfl)))))
  | N + 1, .tuple l, h => by
    obtain ⟨h1, h2⟩ := h
    show f_w_same_B (f_w_same_R N) _ _ = _
    unfold f_w_same_B
    refine bs (a := true) rfl (iT rfl (bs (a := true) rfl (bs (a := false) (orF1 (bs (len_tup l) (bs (len_tup l) (by rw [decide_eq_true rfl]; rfl)))) (iF rfl (bs (len_tup l) (bs (rng1O_n h1) (bs (a := (List.range l.length).map fun _ => true) (lcC_rg (by omega) fun k hk => bs (ix_tup hk) (bs (ix_tup hk) (bs (same_self N _ (h2 _ (List.getElem_mem hk))) rfl))) ?_)))))))
    congr 1
    rw [List.all_map, List.all_eq_true]
    exact fun _ _ => rfl
  | _ + 1, .none, h => h.elim
  | _ + 1, .list _, h => h.elim
  | _ + 1, .dict _, h => h.elim
theorem same_of {a b : PyData} (h : a = b) (p : Pn 8 a) : f_w_same a b = some true := by
  subst h
  exact same_self 8 _ p
theorem pn_row {N : Nat} {l : List Int} (h : l.length ≤ 1000000) : Pn (N + 2) (tp PyData.int l) := ⟨by rw [List.length_map]; exact h, fun x hx => by
  obtain ⟨i, _, rfl⟩ := List.mem_map.mp hx
  exact True.intro⟩
theorem pn_cons {N : Nat} {l : List PyData} (h : l.length ≤ 1000000) (k : ∀ x ∈ l, Pn N x) : Pn (N + 1) (.tuple l) := ⟨h, k⟩
def upsL (P : List Nat) : List (List Int) := (List.range (P.length + 1)).map fun v => iN (upL (gv P) v v)
section
variable {P : List Nat} (hp : Par (gv P) P.length) (few : P.length ≤ 100)
include hp few
theorem few3 : P.length ≤ 1000 := by omega
theorem v_ups : f_w_ups (iN P) = some (upsL P) := by
  unfold f_w_ups
  refine bs rfl ?_
  have l : iN P = (List.range P.length).map fun k => ((gv P (k + 1) : Nat) : Int) := by
    have z := l_rg (iN P)
    rw [len_iN] at z
    rw [z]
    exact List.map_congr_left fun k hk => by
      have := List.mem_range.mp hk
      exact gv_iN (by omega) (by omega)
  have run := forS_n (n := P.length) (f := fun k => ((gv P (k + 1) : Nat) : Int)) (S := fun k => (List.range (k + 1)).map fun v => iN (upL (gv P) v v)) (body := fun x_1 ups_ => f_w_ups_L1 (iN P) x_1 ups_) fun k hk => by
    have lt := hp (k + 1) (by omega) (by omega)
    have ul := upL_len (p := gv P) (gv P (k + 1)) (gv P (k + 1))
    unfold f_w_ups_L1
    refine bs (atI_rg (by omega)) (bs (catO_ok (by rw [len_iN]; show 1 + _ ≤ _; omega)) (bs (appO_ok (by rw [List.length_map, List.length_range]; omega)) ?_))
    rw [List.range_succ (n := k + 1), List.map_append]
    show _ = some (_ ++ [iN (upL (gv P) (k + 1) (k + 1))])
    rw [upL_at hp (few3 hp few) (v := k + 1) (by omega) (by omega)]
    rfl
  rw [← l] at run
  exact bs run rfl
theorem ups_len : (upsL P).length = P.length + 1 := by
  unfold upsL
  rw [List.length_map, List.length_range]
theorem ups_at {v : Nat} (hv : v ≤ P.length) : atI (upsL P) (v : Int) = some (iN (upL (gv P) v v)) := atI_rg (by omega)
/-- z is x or lies above it -/
theorem at_or {x z : Nat} (hz : z ≤ P.length) : ((orO (decide ((z : Int) = (x : Int))) ((atI (upsL P) (z : Int)).bind fun t3 => some (decide ((x : Int) ∈ t3)))).bind fun t4 => some t4) = some (anF (gv P) x z) := by
  by_cases e : z = x
  · subst e
    rw [decide_eq_true rfl, an_self hp hz]
    rfl
  · rw [decide_eq_false (by omega)]
    refine bs (orF1 (bs (ups_at hp few hz) rfl)) ?_
    congr 1
    rw [Bool.eq_iff_iff, decide_eq_true_eq, mem_iN, mem_upL hp z z hz (Nat.le_refl _)]
    constructor
    · exact fun q => q.2
    · exact fun q => ⟨by have := an_le hp hz q; omega, q⟩
theorem path_up {v : Nat} (hv : v ≤ P.length) : upI (iN ((v :: upL (gv P) v v).filter fun x => decide (0 < x))) = iN (pathL (gv P) P.length v) := by
  refine (upI_uniq ?_ ?_).symm
  · rw [← path_eq hp hv, List.filter_reverse]
    unfold iN
    exact (List.reverse_perm _).map _
  · unfold iN pathL
    rw [List.pairwise_map]
    refine List.Pairwise.filter _ ?_
    exact (List.pairwise_lt_range (n := P.length + 1)).imp fun h => by omega
theorem v_version {v : Nat} {b : Bool} (hv : v ≤ P.length) : f_w_version (iN P) (upsL P) (v : Int) b = some true := by
  have f3 := few3 hp few
  have ul := upL_len (p := gv P) v v
  have last : ∀ named, f_w_version_J1 (iN P) (upsL P) (v : Int) named (iN ((List.range (P.length + 1)).filter (anF (gv P) v))) (iN (kidL P v)) (iN (pathL (gv P) P.length v)) (iN (upL (gv P) v v), iN (pathL (gv P) P.length v), ((upL (gv P) v v).length : Int), iN (kidL P v), iN ((List.range (P.length + 1)).filter (anF (gv P) v))) = some true := fun named => by
    unfold f_w_version_J1
    have l1 : (pathL (gv P) P.length v).length ≤ 1000000 := by
      unfold pathL
      have := List.length_filter_le (fun x => decide (0 < x) && anF (gv P) x v) (List.range (P.length + 1))
      rw [List.length_range] at this
      omega
    have l2 : (kidL P v).length ≤ 1000000 := by
      unfold kidL
      have := List.length_filter_le (fun z => decide (gv P z = v)) ((List.range P.length).map (· + 1))
      rw [List.length_map, List.length_range] at this
      omega
    have l3 : ((List.range (P.length + 1)).filter (anF (gv P) v)).length ≤ 1000000 := by
      have := List.length_filter_le (anF (gv P) v) (List.range (P.length + 1))
      rw [List.length_range] at this
      omega
    refine bs (ups_at hp few hv) (bs (ups_at hp few hv) (bs (same_of ?_ ?_) (iF rfl ?_)))
    · rw [len_iN]
    · refine pn_cons (by show 5 ≤ _; omega) fun x hx => ?_
      rcases List.mem_cons.mp hx with z | hx
      · rw [z]; exact pn_row (by rw [len_iN]; omega)
      rcases List.mem_cons.mp hx with z | hx
      · rw [z]; exact pn_row (by rw [len_iN]; omega)
      rcases List.mem_cons.mp hx with z | hx
      · rw [z]; exact True.intro
      rcases List.mem_cons.mp hx with z | hx
      · rw [z]; exact pn_row (by rw [len_iN]; omega)
      rcases List.mem_cons.mp hx with z | hx
      · rw [z]; exact pn_row (by rw [len_iN]; omega)
      · cases hx
    · have par : 1 ≤ v → ((f_parent_of (iN P) (v : Int)).bind fun t39 => (atI (upsL P) (v : Int)).bind fun t40 => (atI t40 (0 : Int)).bind fun t41 => (f_w_same (PyData.int t39) (PyData.int t41)).bind fun t42 => some t42) = some true := fun h1 => by
        refine bs (q_parent hp f3 h1 hv) (bs (ups_at hp few hv) (bs (a := ((gv P v : Nat) : Int)) ?_ (bs (same_of rfl True.intro) rfl)))
        rw [upL_at hp f3 h1 hv]
        exact atI_nn (k := 0)
      by_cases z : 1 ≤ v
      · cases named with
        | true => exact iT (by rw [decide_eq_true (by omega)]; rfl) (par z)
        | false => exact iF (by rw [Bool.and_false]) (bs (a := true) (by rw [decide_eq_false (by omega)]; exact orF1 (par z)) rfl)
      · exact iF (by rw [decide_eq_false (by omega)]; rfl) (bs (a := true) (by rw [decide_eq_true (by omega)]; rfl) rfl)
  unfold f_w_version
  rw [ups_len hp few]
  refine bs (rng1O_n (n := P.length + 1) (by omega)) (bs (a := iN ((List.range (P.length + 1)).filter (anF (gv P) v))) ?_ (bs (rngO_m (m := P.length + 1) (by omega) (by omega)) (bs (a := iN (kidL P v)) ?_ (bs (ups_at hp few hv) (bs (a := iN (v :: upL (gv P) v v)) ?_ (bs (a := iN ((v :: upL (gv P) v v).filter fun x => decide (0 < x))) ?_ (bs rfl ?_)))))))
  · exact lcC_iN (l := List.range (P.length + 1)) (by rw [List.length_range]; omega) fun z hz => at_or hp few (by have := List.mem_range.mp hz; omega)
  · have z := lcC_iN (l := (List.range P.length).map (· + 1)) (p := fun x8 => (atI (iN P) (x8 - (1 : Int))).bind fun t9 => some (decide (t9 = (v : Int)))) (p' := fun z => decide (gv P z = v)) (by rw [List.length_map, List.length_range]; omega) fun a ha => by
      obtain ⟨k, hk, rfl⟩ := List.mem_map.mp ha
      have := List.mem_range.mp hk
      refine bs (atI_iN (by omega) (by omega)) ?_
      congr 1
      exact decide_eq_decide.mpr (by omega)
    unfold iN at z ⊢
    rw [List.map_map] at z
    exact z
  · exact catO_ok (by rw [len_iN]; show 1 + _ ≤ _; omega)
  · refine lcC_iN (by rw [List.length_cons]; omega) fun a _ => ?_
    congr 1
    exact decide_eq_decide.mpr (by omega)
  · rw [path_up hp few hv]
    cases b with
    | true => exact iT rfl (bs (q_elders hp f3 hv) (bs (q_path hp f3 hv) (bs (q_depth hp f3 hv) (bs (q_children hp f3 hv) (bs (q_branch hp f3 hv) (bs rfl (last true)))))))
    | false => exact iF rfl (bs (q_elders hp f3 hv) (bs (q_path hp f3 hv) (bs (q_depth hp f3 hv) (bs (q_children hp f3 hv) (bs (q_branch hp f3 hv) (bs rfl (last false)))))))
end
end K02
namespace K02
open PySem PySem.Spec PyProof.Rows L2 DL
section
variable {P : List Nat} (hp : Par (gv P) P.length) (few : P.length ≤ 100)
include hp few
theorem top_an {v w m : Nat} (hv : v ≤ P.length) (hm : m ≤ P.length) (h : ∀ x, (anF (gv P) x v = true ∧ anF (gv P) x w = true) ↔ anF (gv P) x m = true) : maxO1 (iN ((v :: upL (gv P) v v).filter fun x => anF (gv P) x w)) = some (m : Int) := by
  have here := (h m).mpr (an_self hp hm)
  have mem : m ∈ (v :: upL (gv P) v v).filter fun x => anF (gv P) x w := by
    refine List.mem_filter.mpr ⟨?_, here.2⟩
    have le := an_le hp hv here.1
    by_cases e : m = v
    · rw [e]; exact List.mem_cons_self ..
    · exact List.mem_cons_of_mem _ ((mem_upL hp v v hv (Nat.le_refl _)).mpr ⟨by omega, here.1⟩)
  have mi : (m : Int) ∈ iN ((v :: upL (gv P) v v).filter fun x => anF (gv P) x w) := mem_iN.mpr mem
  rw [maxO1_ok fun z => by rw [z] at mi; cases mi]
  refine congrArg some (maxI_uniq mi fun y hy => ?_).symm
  obtain ⟨x, hx, rfl⟩ := mem_iN'.mp hy
  obtain ⟨h1, h2⟩ := List.mem_filter.mp hx
  have a1 : anF (gv P) x v = true := by
    rcases List.mem_cons.mp h1 with z | z
    · rw [z]; exact an_self hp hv
    · exact ((mem_upL hp v v hv (Nat.le_refl _)).mp z).2
  have := an_le hp hm ((h x).mp ⟨a1, h2⟩)
  omega
theorem v_pair {v w : Nat} {b : Bool} (hv : v ≤ P.length) (hw : w ≤ P.length) : f_w_pair (iN P) (upsL P) (v : Int) (w : Int) b = some true := by
  have f3 := few3 hp few
  have ul := upL_len (p := gv P) v v
  obtain ⟨m, m1, m2, m3⟩ := q_meet hp f3 hv hw
  have el := q_is_elder hp f3 hv hw
  have ed : decide ((v : Int) ∈ iN (upL (gv P) w w)) = (decide (v < w) && anF (gv P) v w) := by
    rw [Bool.eq_iff_iff, decide_eq_true_eq, Bool.and_eq_true, decide_eq_true_eq, mem_iN, mem_upL hp w w hw (Nat.le_refl _)]
  have fin : f_w_same ((p2 PyData.bool PyData.int) ((decide (v < w) && anF (gv P) v w), (m : Int))) ((p2 PyData.bool PyData.int) ((decide ((v : Int) ∈ iN (upL (gv P) w w))), (m : Int))) = some true := by
    rw [ed]
    refine same_of rfl (pn_cons (by show 2 ≤ _; omega) fun x hx => ?_)
    rcases List.mem_cons.mp hx with z | hx
    · rw [z]; exact True.intro
    · rw [List.mem_singleton.mp hx]; exact True.intro
  unfold f_w_pair
  refine bs (ups_at hp few hv) (bs (a := iN (v :: upL (gv P) v v)) (catO_ok (by rw [len_iN]; show 1 + _ ≤ _; omega)) (bs (a := iN ((v :: upL (gv P) v v).filter fun x => anF (gv P) x w)) ?_ (bs (top_an hp few hv m2 m3) ?_)))
  · refine lcC_iN (by rw [List.length_cons]; omega) fun z hz => ?_
    have zl : z ≤ P.length := by
      rcases List.mem_cons.mp hz with e | e
      · omega
      · have := ((mem_upL hp v v hv (Nat.le_refl _)).mp e).1
        omega
    by_cases e : z = w
    · subst e
      rw [decide_eq_true rfl, an_self hp zl]
      rfl
    · rw [decide_eq_false (by omega)]
      refine bs (orF1 (bs (ups_at hp few hw) rfl)) (congrArg some ?_)
      rw [Bool.eq_iff_iff, decide_eq_true_eq, mem_iN, mem_upL hp w w hw (Nat.le_refl _)]
      exact ⟨fun q => q.2, fun q => ⟨by have := an_le hp hw q; omega, q⟩⟩
  · cases b with
    | true => exact iT rfl (bs el (bs m1 (bs rfl (bs (ups_at hp few hw) (bs fin rfl)))))
    | false => exact iF rfl (bs el (bs m1 (bs rfl (bs (ups_at hp few hw) (bs fin rfl)))))
theorem v_whole {b : Bool} : f_w_whole (iN P) (upsL P) b = some true := by
  have f3 := few3 hp few
  obtain ⟨st, hst⟩ : ∃ st, f_is_line (iN P) = some st ∧ (rgLO (0 : Int) ((iN P).length : Int)).bind (fun t8 => some (decide (iN P = t8))) = some st := by
    unfold f_is_line
    rw [len_iN, rgLO_0 (by omega)]
    exact ⟨_, rfl, rfl⟩
  have dl : ((List.range (P.length + 1)).map fun v => ((upL (gv P) v v).length : Int)) ≠ [] := by
    rw [List.range_succ_eq_map]
    exact fun z => by cases z
  have dp := q_depth_in hp f3
  rw [maxO1_ok dl] at dp
  have ll : ((List.range (P.length + 1)).filter fun z => !decide (z ∈ P)).length ≤ 1000000 := by
    have := List.length_filter_le (fun z => !decide (z ∈ P)) (List.range (P.length + 1))
    rw [List.length_range] at this
    omega
  have lens : lcC (fun x16 => some true) (fun (x16 : List Int) => some (x16.length : Int)) (upsL P) = some ((List.range (P.length + 1)).map fun v => ((upL (gv P) v v).length : Int)) := by
    rw [lcC_map (g' := fun x : List Int => (x.length : Int)) (by rw [ups_len hp few]; omega) fun _ _ => rfl]
    unfold upsL
    rw [List.map_map]
    refine congrArg some (List.map_congr_left fun v _ => ?_)
    show ((iN (upL (gv P) v v)).length : Int) = _
    rw [len_iN]
  have mx : maxO1 ((List.range (P.length + 1)).map fun v => ((upL (gv P) v v).length : Int)) = some (maxI ((List.range (P.length + 1)).map fun v => ((upL (gv P) v v).length : Int))) := maxO1_ok dl
  have fin : f_w_same ((p4 PyData.int PyData.int (tp PyData.int) PyData.bool) ((P.length : Int), maxI ((List.range (P.length + 1)).map fun v => ((upL (gv P) v v).length : Int)), iN ((List.range (P.length + 1)).filter fun z => !decide (z ∈ P)), st)) ((p4 PyData.int PyData.int (tp PyData.int) PyData.bool) (((iN P).length : Int), maxI ((List.range (P.length + 1)).map fun v => ((upL (gv P) v v).length : Int)), iN ((List.range (P.length + 1)).filter fun z => !decide (z ∈ P)), st)) = some true := by
    rw [len_iN]
    refine same_of rfl (pn_cons (by show 4 ≤ _; omega) fun x hx => ?_)
    rcases List.mem_cons.mp hx with z | hx
    · rw [z]; exact True.intro
    rcases List.mem_cons.mp hx with z | hx
    · rw [z]; exact True.intro
    rcases List.mem_cons.mp hx with z | hx
    · rw [z]; exact pn_row (by rw [len_iN]; exact ll)
    · rw [List.mem_singleton.mp hx]; exact True.intro
  have rest : ∀ t8, rgLO (0 : Int) ((iN P).length : Int) = some t8 → decide (iN P = t8) = st := fun t8 h => by
    have z := hst.2
    rw [h] at z
    exact Option.some.inj z
  unfold f_w_whole
  rw [ups_len hp few]
  refine bs (a := iN P) ?_ (bs (rng1O_n (n := P.length + 1) (by omega)) (bs (a := iN ((List.range (P.length + 1)).filter fun z => !decide (z ∈ P))) ?_ (bs (a := iN (List.range P.length)) (by rw [len_iN]; exact rgLO_0 (by omega)) ?_)))
  · have z := lcC_map (l := iN P) (g := fun x => some x) (g' := id) (by rw [len_iN]; omega) fun _ _ => rfl
    rw [List.map_id] at z
    exact z
  · exact lcC_iN (l := List.range (P.length + 1)) (by rw [List.length_range]; omega) fun a _ => congrArg some (congrArg (fun z => !z) (decide_eq_decide.mpr mem_iN))
  · have e := rest (iN (List.range P.length)) (by rw [len_iN]; exact rgLO_0 (by omega))
    refine bs (a := st) (by rw [e]) ?_
    cases b with
    | true => exact iT rfl (bs q_many (bs dp (bs (q_leaves hp f3) (bs hst.1 (bs rfl (bs lens (bs mx (bs fin rfl))))))))
    | false => exact iF rfl (bs q_many (bs dp (bs (q_leaves hp f3) (bs hst.1 (bs rfl (bs lens (bs mx (bs fin rfl))))))))
end
end K02
namespace K02
open PySem PySem.Spec PyProof.Rows L2 DL
def Dr (d : List Int) : Prop := ∀ x ∈ d, 0 ≤ x ∧ x < 9949
theorem dr_app {d : List Int} {x : Int} (h : Dr d) (h1 : 0 ≤ x) (h2 : x < 9949) : Dr (d ++ [x]) := fun y hy => by
  rcases List.mem_append.mp hy with z | z
  · exact h y z
  · rw [List.mem_singleton.mp z]
    exact ⟨h1, h2⟩
theorem e_mixed {s : Int} (h1 : 0 ≤ s) (h2 : s < 2147483647) : ∃ x, f_w_mixed s = some x ∧ 0 ≤ x ∧ x < 9949 := by
  unfold f_w_mixed
  have m1 : mulO s (s / 7 % 65497 + 17) = some (s * (s / 7 % 65497 + 17)) := by
    unfold mulO mulC
    rw [if_pos (by rw [decide_eq_true (.inl (by omega)), Bool.true_or])]
  have m2 : ∀ t : Int, 0 ≤ t → t < 2147483629 → mulO t (t / 5 % 32717 + 5) = some (t * (t / 5 % 32717 + 5)) := fun t a b => by
    unfold mulO mulC
    rw [if_pos (by rw [decide_eq_true (.inl (by omega)), Bool.true_or])]
  exact ⟨_, bs m1 (bs rfl (bs (m2 _ (by omega) (by omega)) rfl)), by omega, by omega⟩
theorem e_draws1 {ns : List Int} {x st : Int} {s : List Int} (h1 : s.length ≤ 128) (h2 : Dr s) : ∃ r : List Int × Int, f_w_draws_L1 ns 128 x s st = some r ∧ r.1.length ≤ 128 ∧ Dr r.1 ∧ 0 ≤ r.2 ∧ r.2 < 2147483647 := by
  have part : ∀ (s : List Int) (st : Int), s.length ≤ 128 → Dr s → 0 ≤ st → st < 2147483647 → ∃ r : List Int × Int, f_w_draws_J1 ns 128 st x s = some r ∧ r.1.length ≤ 128 ∧ Dr r.1 ∧ 0 ≤ r.2 ∧ r.2 < 2147483647 := fun s st h1 h2 h3 h4 => by
    unfold f_w_draws_J1
    refine bsX (a := 1000000000000000000) rfl ?_
    by_cases z : 1000000000000000000 ≤ x
    · refine iTX (decide_eq_true z) (bsX (rng1O_n (n := 60) (by omega)) ?_)
      obtain ⟨q, q1, q2, q3⟩ := forS_J (n := 60) (f := fun (k : Nat) => (k : Int)) (fun k (t : List Int × Int) => t.1.length ≤ 128 ∧ Dr t.1) (body := fun x_2 s_ => f_w_draws_L2 ns 128 st x_2 s_.1 s_.2) (s := (s, x)) ⟨h1, h2⟩ (by
        rintro k hk ⟨t, l⟩ ⟨t1, t2⟩
        dsimp only at t1 t2
        unfold f_w_draws_L2
        by_cases y : ((decide ((0 : Int) < l)) && (decide ((t.length : Int) < 128))) = true
        · rw [Bool.and_eq_true, decide_eq_true_eq, decide_eq_true_eq] at y
          refine iTX (by rw [decide_eq_true y.1, decide_eq_true y.2]; rfl) (bsX (appO_ok (by dsimp only; omega)) (bsX rfl ⟨_, rfl, ?_, dr_app t2 (by omega) (by omega)⟩))
          rw [List.length_append]
          show t.length + 1 ≤ _
          omega
        · exact iFX (by simpa using y) ⟨_, rfl, t1, t2⟩)
      exact bsX q1 ⟨_, rfl, q2, q3, h3, h4⟩
    · exact iFX (decide_eq_false z) ⟨_, rfl, h1, h2, h3, h4⟩
  unfold f_w_draws_L1
  refine bsX rfl (bsX rfl (bsX (a := 1000000000000000000) rfl ?_))
  by_cases y : ((decide (x < (1000000000000000000 : Int))) && (decide ((s.length : Int) < 128))) = true
  · rw [Bool.and_eq_true, decide_eq_true_eq, decide_eq_true_eq] at y
    obtain ⟨m, m1, m2, m3⟩ := e_mixed (s := (st * 39373 + x % 2147483629 + 60013) % 2147483647) (by omega) (by omega)
    refine iTX (by rw [decide_eq_true y.1, decide_eq_true y.2]; rfl) (bsX m1 (bsX (appO_ok (by omega)) (part _ _ ?_ (dr_app h2 m2 m3) (by omega) (by omega))))
    rw [List.length_append]
    show s.length + 1 ≤ _
    omega
  · exact iFX (by simpa using y) (part _ _ h1 h2 (by omega) (by omega))
theorem e_draws {ns : List Int} : ∃ d, f_w_draws ns 128 = some d ∧ d.length = 128 ∧ Dr d := by
  have d0 : Dr [] := fun x hx => by cases hx
  unfold f_w_draws
  refine bsX rfl (bsX rfl ?_)
  obtain ⟨a, a1, a2, a3, a4, a5⟩ := forS_J (n := ns.length) (f := fun (k : Nat) => gv ns (k + 1)) (fun k (t : List Int × Int) => t.1.length ≤ 128 ∧ Dr t.1 ∧ 0 ≤ t.2 ∧ t.2 < 2147483647) (body := fun x_1 s_ => f_w_draws_L1 ns 128 x_1 s_.1 s_.2) (s := ([], 0)) ⟨Nat.zero_le _, d0, Int.le_refl _, by show (0 : Int) < _; omega⟩ (fun k hk t ⟨t1, t2, t3, t4⟩ => e_draws1 t1 t2)
  rw [← l_rg ns] at a1
  refine bsX a1 (bsX (rng1O_n (n := 128) (by omega)) ?_)
  obtain ⟨b, b1, b2, b3, b4, b5, b6⟩ := forS_J (n := 128) (f := fun (k : Nat) => (k : Int)) (fun k (t : List Int × Int) => k ≤ t.1.length ∧ t.1.length ≤ 128 ∧ Dr t.1 ∧ 0 ≤ t.2 ∧ t.2 < 2147483647) (body := fun x_3 s_ => f_w_draws_L3 128 x_3 s_.1 s_.2) (s := (a.1, a.2)) ⟨Nat.zero_le _, a2, a3, a4, a5⟩ (by
    rintro k hk ⟨t, st⟩ ⟨t1, t2, t3, t4, t5⟩
    dsimp only at t1 t2 t3 t4 t5
    unfold f_w_draws_L3
    by_cases y : (t.length : Int) < 128
    · obtain ⟨m, m1, m2, m3⟩ := e_mixed (s := (st * 39373) % 2147483647) (by omega) (by omega)
      refine iTX (decide_eq_true y) (bsX rfl (bsX m1 (bsX (appO_ok (by dsimp only; omega)) ⟨_, rfl, ?_, ?_, dr_app t3 m2 m3, by dsimp only; omega, by dsimp only; omega⟩)))
      · rw [List.length_append]
        show k + 1 ≤ t.length + 1
        omega
      · rw [List.length_append]
        show t.length + 1 ≤ _
        omega
    · exact iFX (decide_eq_false y) ⟨_, rfl, by dsimp only; omega, t2, t3, t4, t5⟩)
  exact bsX b1 ⟨_, rfl, by omega, b4⟩
theorem dr_at {d : List Int} {n k : Nat} (h : Dr d) (hl : d.length = n) (hk : k < n) : ∃ x : Nat, atI d (k : Int) = some (x : Int) ∧ x < 9949 := by
  have e : d[k]? = some d[k] := List.getElem?_eq_getElem (by omega)
  have z := h d[k] (List.getElem_mem _)
  refine ⟨d[k].toNat, ?_, by omega⟩
  rw [atI_nn, e, Int.toNat_of_nonneg z.1]
theorem cut_two {α : Type} {l : List α} {a b : Nat} (h1 : a ≤ b) (h2 : b ≤ l.length) : DL.cutD l (some (a : Int)) (some (b : Int)) = (l.drop a).take (b - a) := by
  unfold DL.cutD
  rw [HT.sIx_nat, HT.sIx_nat, Nat.min_eq_left h2, Nat.min_eq_left (show a ≤ l.length by omega)]
theorem dr_cut {d : List Int} {a b : Nat} (h : Dr d) (h1 : a ≤ b) (h2 : b ≤ d.length) : Dr (DL.cutD d (some (a : Int)) (some (b : Int))) ∧ (DL.cutD d (some (a : Int)) (some (b : Int))).length = b - a := by
  rw [cut_two h1 h2]
  refine ⟨fun x hx => h x (List.mem_of_mem_drop (List.mem_of_mem_take hx)), ?_⟩
  rw [List.length_take, List.length_drop]
  omega
theorem gv_fst {t : List Nat} {x v : Nat} (h1 : 1 ≤ v) (h2 : v ≤ t.length) : gv (t ++ [x]) v = gv t v := by
  have a := gv_get (l := t ++ [x]) (k := v - 1) (by rw [List.length_append]; omega)
  have b := gv_get (l := t) (k := v - 1) (by omega)
  rw [List.getElem?_append_left (by omega), b] at a
  rw [show v - 1 + 1 = v by omega] at a
  exact (Option.some.inj a).symm
theorem v_tree {b : List Int} {n sh : Nat} (hb : Dr b) (hl : b.length = 40) (hn : n ≤ 40) : ∃ P : List Nat, f_w_tree b (n : Int) (sh : Int) = some (iN P) ∧ P.length = n ∧ Par (gv P) n := by
  suffices z : ∃ r, f_w_tree b (n : Int) (sh : Int) = some r ∧ ∃ P : List Nat, r = iN P ∧ P.length = n ∧ Par (gv P) n by
    obtain ⟨r, h1, P, rfl, h2⟩ := z
    exact ⟨P, h1, h2⟩
  unfold f_w_tree
  refine bsX rfl (bsX (rngO_1 (by omega)) ?_)
  have step : ∀ (t : List Nat) (k x : Nat), t.length = k → Par (gv t) k → x ≤ k → ∃ P : List Nat, iN t ++ [((x : Nat) : Int)] = iN P ∧ P.length = k + 1 ∧ Par (gv P) (k + 1) := fun t k x h1 h2 h3 => by
    refine ⟨t ++ [x], ?_, by rw [List.length_append, h1]; rfl, fun v v1 v2 => ?_⟩
    · rw [← iN_app]
      rfl
    · by_cases e : v = k + 1
      · subst e
        have := gv_last' t x
        rw [h1] at this
        have this : gv (t ++ [x]) (k + 1) = x := this
        omega
      · rw [gv_fst v1 (by omega)]
        exact h2 v v1 (by omega)
  obtain ⟨s, q1, P, rfl, q2, q3⟩ := forS_J (n := n) (f := fun k => ((k + 1 : Nat) : Int)) (fun k (s : List Int) => ∃ t : List Nat, s = iN t ∧ t.length = k ∧ Par (gv t) k) (body := fun x_1 tree_ => f_w_tree_L1 b (n : Int) (sh : Int) x_1 tree_) (s := []) ⟨[], rfl, rfl, fun v v1 v2 => by omega⟩ (by
    rintro k hk s ⟨t, rfl, t1, t2⟩
    obtain ⟨c, c1, c2⟩ := dr_at hb hl (show 0 < 40 by omega)
    obtain ⟨d, d1, d2⟩ := dr_at hb hl (show k < 40 by omega)
    have d1 : atI b (((k + 1 : Nat) : Int) - 1) = some (d : Int) := by rw [← d1]; congr 1; omega
    have put : ∀ (y : Int) (x : Nat), y = (x : Int) → x ≤ k → ∃ s', ((appO (iN t) y).bind fun tree5 => some tree5) = some s' ∧ ∃ P : List Nat, s' = iN P ∧ P.length = k + 1 ∧ Par (gv P) (k + 1) := fun y x hy hx => by
      subst hy
      obtain ⟨P, p1, p2, p3⟩ := step t k x t1 t2 hx
      exact bsX (appO_ok (by rw [len_iN]; omega)) ⟨_, rfl, P, p1, p2, p3⟩
    unfold f_w_tree_L1
    by_cases z1 : (sh : Int) = 1
    · exact iTX (decide_eq_true z1) (put _ k (by omega) (Nat.le_refl _))
    refine iFX (decide_eq_false z1) ?_
    by_cases z2 : (sh : Int) = 2
    · exact iTX (decide_eq_true z2) (bsX c1 (put _ (min k (c % 3)) (by omega) (by omega)))
    refine iFX (decide_eq_false z2) ?_
    by_cases z3 : (sh : Int) = 3
    · exact iTX (decide_eq_true z3) (bsX d1 (put _ (k - d % 3) (by omega) (by omega)))
    refine iFX (decide_eq_false z3) ?_
    by_cases z4 : (sh : Int) = 4
    · exact iTX (decide_eq_true z4) (put _ ((k + 1) / 2) (by omega) (by omega))
    refine iFX (decide_eq_false z4) ?_
    refine bsX d1 (bsX (a := ((d % (k + 1) : Nat) : Int)) (modO_ok (by omega)) (put _ (d % (k + 1)) rfl ?_))
    have := Nat.mod_lt d (show 0 < k + 1 by omega)
    omega)
  exact bsX q1 ⟨_, rfl, P, rfl, q2, q3⟩
end K02
namespace K02
open PySem PySem.Spec PyProof.Rows L2 DL
instance : Inhabited PyData := ⟨.none⟩
def numB : PyData → Bool
  | .int i => decide (0 ≤ i)
  | _ => false
/-- a parent at place k -/
def gd (k : Nat) : PyData → Bool
  | .int i => decide (0 ≤ i ∧ i ≤ k)
  | _ => false
def plain : PyData → Bool
  | .dict _ => false
  | _ => true
def fstB : Nat → List PyData → Option Nat
  | _, [] => none
  | k, d :: ds => if gd k d = true then fstB (k + 1) ds else some k
def itF : Nat → List PyData → List PyData
  | _, [] => []
  | k, d :: ds => .tuple [.int (k : Int), d] :: itF (k + 1) ds
theorem itF_at : ∀ (ds : List PyData) (k i : Nat), (itF k ds)[i]? = (ds[i]?).map fun d => .tuple [.int ((k + i : Nat) : Int), d]
  | [], _, i => rfl
  | d :: ds, k, 0 => rfl
  | d :: ds, k, i + 1 => by
    show (itF (k + 1) ds)[i]? = (ds[i]?).map _
    rw [itF_at ds (k + 1) i]
    congr 1
    funext x
    rw [show k + 1 + i = k + (i + 1) by omega]
theorem en_itF (ds : List PyData) : (enumL ds).map (p2 PyData.int idD) = itF 0 ds := by
  refine List.ext_getElem? fun i => ?_
  rw [itF_at, enum_rg, List.map_map, List.getElem?_map]
  by_cases h : i < ds.length
  · rw [List.getElem?_range h, List.getElem?_eq_getElem h]
    show some (p2 PyData.int idD ((i : Int), gv ds (i + 1))) = some (.tuple [.int ((0 + i : Nat) : Int), ds[i]])
    have e := gv_get (l := ds) (k := i) h
    rw [List.getElem?_eq_getElem h] at e
    rw [← Option.some.inj e, Nat.zero_add]
  · rw [List.getElem?_eq_none (by rw [List.length_range]; omega), List.getElem?_eq_none (by omega)]
    rfl
theorem num_of {d : PyData} (h : plain d = true) : F_is_number [d] = some (.im (.bool (numB d))) := by
  cases d with
  | int i => exact k_is_number (thing := i) (r := decide (0 ≤ i)) rfl
  | dict _ => cases h
  | none => rfl
  | bool b => rfl
  | str s => rfl
  | list l => rfl
  | tuple l => rfl
/-- the loop's test -/
theorem test_of {D d : PyData} {k : Nat} (h : plain d = true) : t_or (t_not (t_of (x_call F_is_number [] (a_cons (x_var 2) a_nil)))) (t_of (x_bin q_gt (x_var 2) (x_var 1))) [im D, im (.int (k : Int)), im d] = some (!gd k d, [im D, im (.int (k : Int)), im d]) := by
  have n := bang (callI (dds := []) (aI (vI (i := 2) (e := [im D, im (.int (k : Int)), im d]) rfl) a0) rfl (num_of h))
  cases d with
  | int i =>
    have n : t_of (x_call F_is_number [] (a_cons (x_var 2) a_nil)) [im D, im (.int (k : Int)), im (.int i)] = some (decide (0 ≤ i), [im D, im (.int (k : Int)), im (.int i)]) := n
    by_cases z : 0 ≤ i
    · rw [decide_eq_true z] at n
      refine (torF (tnot n) (bang (binI (vI (e := [im D, im (.int (k : Int)), im (.int i)]) rfl) (vI (e := [im D, im (.int (k : Int)), im (.int i)]) rfl) (e_qgt (i := i) (j := (k : Int)))))).trans ?_
      show some (decide ((k : Int) < i), _) = some (!decide (0 ≤ i ∧ i ≤ (k : Int)), _)
      by_cases y : i ≤ (k : Int)
      · rw [decide_eq_false (by omega), decide_eq_true ⟨z, y⟩]
        rfl
      · rw [decide_eq_true (by omega), decide_eq_false (fun q => y q.2)]
        rfl
    · rw [decide_eq_false z] at n
      refine (torT (tnot n)).trans ?_
      show some (true, _) = some (!decide (0 ≤ i ∧ i ≤ (k : Int)), _)
      rw [decide_eq_false (fun q => z q.1)]
      rfl
  | dict _ => cases h
  | none => exact torT (tnot n)
  | bool b => exact torT (tnot n)
  | str s => exact torT (tnot n)
  | list l => exact torT (tnot n)
  | tuple l => exact torT (tnot n)
theorem ok3 {D : PyData} {a b : Option Sl} : okS [1, 2] [im D, a, b] = true := rfl
section
variable {D : PyData}
theorem go_none {fb : Fs} (h : ∀ (k : Nat) x, gd k x = true → plain x = true → fb [im D, im (.int (k : Int)), im x] = some (.nx [im D, im (.int (k : Int)), im x])) : ∀ (ds : List PyData) (k : Nat) (a b : Option Sl), ds.all plain = true → fstB k ds = none →
    ∃ a' b', forGo (g_tup [1, 2]) [1, 2] fb (itF k ds) [im D, a, b] = some (.nx [im D, a', b'])
  | [], k, a, b, _, _ => ⟨a, b, rfl⟩
  | d :: ds, k, a, b, hp, hf => by
    rw [List.all_cons, Bool.and_eq_true] at hp
    unfold fstB at hf
    by_cases g : gd k d = true
    · rw [if_pos g] at hf
      obtain ⟨a', b', e⟩ := go_none h ds (k + 1) (im (.int (k : Int))) (im d) hp.2 hf
      refine ⟨a', b', ?_⟩
      show (if okS [1, 2] [im D, a, b] = true then _ else _) = _
      rw [if_pos ok3]
      show (match fb [im D, im (.int (k : Int)), im d] with | some (.nx e3) => _ | some (.ct e3) => _ | some (.bk e3) => _ | some (.rt r e3) => _ | none => _) = _
      rw [h k d g hp.1]
      exact e
    · rw [if_neg g] at hf
      cases hf
theorem go_some {fb : Fs} {o : Nat → PyData → Option Fl} (ho : ∀ k x, o k x = none ∨ ∃ r e, o k x = some (.rt r e)) (h : ∀ (k : Nat) x, gd k x = true → plain x = true → fb [im D, im (.int (k : Int)), im x] = some (.nx [im D, im (.int (k : Int)), im x]))
    (hb : ∀ (k : Nat) x, gd k x = false → plain x = true → fb [im D, im (.int (k : Int)), im x] = o k x) : ∀ (ds : List PyData) (k j : Nat) (a b : Option Sl), ds.all plain = true → fstB k ds = some j →
    ∃ x, forGo (g_tup [1, 2]) [1, 2] fb (itF k ds) [im D, a, b] = o j x
  | [], k, j, a, b, _, hf => by cases hf
  | d :: ds, k, j, a, b, hp, hf => by
    rw [List.all_cons, Bool.and_eq_true] at hp
    unfold fstB at hf
    by_cases g : gd k d = true
    · rw [if_pos g] at hf
      obtain ⟨x, e⟩ := go_some ho h hb ds (k + 1) j (im (.int (k : Int))) (im d) hp.2 hf
      refine ⟨x, ?_⟩
      show (if okS [1, 2] [im D, a, b] = true then _ else _) = _
      rw [if_pos ok3]
      show (match fb [im D, im (.int (k : Int)), im d] with | some (.nx e3) => _ | some (.ct e3) => _ | some (.bk e3) => _ | some (.rt r e3) => _ | none => _) = _
      rw [h k d g hp.1]
      exact e
    · rw [if_neg g] at hf
      cases hf
      refine ⟨d, ?_⟩
      show (if okS [1, 2] [im D, a, b] = true then _ else _) = _
      rw [if_pos ok3]
      show (match fb [im D, im (.int (k : Int)), im d] with | some (.nx e3) => _ | some (.ct e3) => _ | some (.bk e3) => _ | some (.rt r e3) => _ | none => _) = _
      rw [hb k d (by simpa using g) hp.1]
      rcases ho k d with e | ⟨r, e, q⟩
      · rw [e]
      · rw [q]
theorem go_raise {fb : Fsx} {y : Nat → Xc} (h : ∀ (k : Nat) x, gd k x = true → plain x = true → fb [im D, im (.int (k : Int)), im x] = some (.inl (.nx [im D, im (.int (k : Int)), im x])))
    (hb : ∀ (k : Nat) x, gd k x = false → plain x = true → ∃ e, fb [im D, im (.int (k : Int)), im x] = some (.inr (y k, e))) : ∀ (ds : List PyData) (k j : Nat) (a b : Option Sl), ds.all plain = true → fstB k ds = some j →
    ∃ e, forGoX (g_tup [1, 2]) [1, 2] fb (itF k ds) [im D, a, b] = some (.inr (y j, e))
  | [], k, j, a, b, _, hf => by cases hf
  | d :: ds, k, j, a, b, hp, hf => by
    rw [List.all_cons, Bool.and_eq_true] at hp
    unfold fstB at hf
    by_cases g : gd k d = true
    · rw [if_pos g] at hf
      obtain ⟨x, e⟩ := go_raise h hb ds (k + 1) j (im (.int (k : Int))) (im d) hp.2 hf
      refine ⟨x, ?_⟩
      show (if okS [1, 2] [im D, a, b] = true then _ else _) = _
      rw [if_pos ok3]
      show (match fb [im D, im (.int (k : Int)), im d] with | some (.inl (.nx e3)) => _ | some (.inl (.ct e3)) => _ | some (.inl (.bk e3)) => _ | some (.inl (.rt r e3)) => _ | some (.inr y) => _ | none => _) = _
      rw [h k d g hp.1]
      exact e
    · rw [if_neg g] at hf
      cases hf
      obtain ⟨e, q⟩ := hb k d (by simpa using g) hp.1
      refine ⟨e, ?_⟩
      show (if okS [1, 2] [im D, a, b] = true then _ else _) = _
      rw [if_pos ok3]
      show (match fb [im D, im (.int (k : Int)), im d] with | some (.inl (.nx e3)) => _ | some (.inl (.ct e3)) => _ | some (.inl (.bk e3)) => _ | some (.inl (.rt r e3)) => _ | some (.inr y) => _ | none => _) = _
      rw [q]
end
theorem en_of (ds : List PyData) {a b : Option Sl} : i_enum (x_var 0) [im (.tuple ds), a, b] = some (itF 0 ds, [im (.tuple ds), a, b]) := by
  have z := enumI (f := idD) (l := ds) (x := x_var 0) (e := [im (.tuple ds), a, b]) (e1 := [im (.tuple ds), a, b]) (by rw [List.map_id']; rfl)
  rw [z, en_itF]
theorem runX_inr {n nl : Nat} {g : Fsx} {ds : List PyData} {x : Xc} {e : Ev} (hl : ds.length = n) (h : g (env0 ds nl) = some (.inr (x, e))) : runX n nl g ds = some (.inr x) := by
  unfold runX
  rw [if_pos hl, h]
theorem runF_no {n nl : Nat} {g : Fs} {ds : List PyData} (h : g (env0 ds nl) = none) : runF n nl g ds = none := by
  unfold runF
  rw [h]
  split <;> rfl
theorem s_ifT {c : Ft} {f g : Fs} {e e1 : Ev} (h : c e = some (true, e1)) : s_if c f g e = f e1 := by
  unfold s_if
  rw [h]
theorem s_ifF {c : Ft} {f g : Fs} {e e1 : Ev} (h : c e = some (false, e1)) : s_if c f g e = g e1 := by
  unfold s_if
  rw [h]
theorem x_ifST {c : Ft} {f g : Fsx} {e e1 : Ev} (h : c e = some (true, e1)) : x_ifS c f g e = f e1 := by
  unfold x_ifS
  rw [h]
theorem x_ifSF {c : Ft} {f g : Fsx} {e e1 : Ev} (h : c e = some (false, e1)) : x_ifS c f g e = g e1 := by
  unfold x_ifS
  rw [h]
theorem xseq_nx {f g : Fsx} {e e1 : Ev} (h : f e = some (.inl (.nx e1))) : x_seq f g e = g e1 := by
  unfold x_seq
  rw [h]
theorem xseq_inr {f g : Fsx} {e : Ev} {y : Xc × Ev} (h : f e = some (.inr y)) : x_seq f g e = some (.inr y) := by
  unfold x_seq
  rw [h]
theorem sseq_nx {f g : Fs} {e e1 : Ev} (h : f e = some (.nx e1)) : s_seq f g e = g e1 := by
  unfold s_seq
  rw [h]
theorem sseq_rt {f g : Fs} {e e1 : Ev} {r : Rs} (h : f e = some (.rt r e1)) : s_seq f g e = some (.rt r e1) := by
  unfold s_seq
  rw [h]
theorem sseq_no {f g : Fs} {e : Ev} (h : f e = none) : s_seq f g e = none := by
  unfold s_seq
  rw [h]
theorem s_for_of {fi : Fi} {γ : PyData → Ev → Option Ev} {S : List Nat} {fb : Fs} {e e1 : Ev} {l : List PyData} (h : fi e = some (l, e1)) : s_for fi γ S fb e = forGo γ S fb l e1 := by
  unfold s_for
  rw [h]
theorem x_for_of {fi : Fi} {γ : PyData → Ev → Option Ev} {S : List Nat} {fb : Fsx} {e e1 : Ev} {l : List PyData} (h : fi e = some (l, e1)) : x_for fi γ S fb e = forGoX γ S fb l e1 := by
  unfold x_for
  rw [h]
theorem is_tup {ds : List PyData} {a b : Option Sl} : t_not (t_of (x_isi .tuple (x_var 0))) [im (.tuple ds), a, b] = some (false, [im (.tuple ds), a, b]) := rfl
theorem fst_good {k : Nat} {x : PyData} (g : gd k x = true) : (!gd k x) = false := by rw [g]; rfl
theorem fst_bad {k : Nat} {x : PyData} (g : gd k x = false) : (!gd k x) = true := by rw [g]; rfl
theorem hist_tup {ds : List PyData} (hp : ds.all plain = true) : F_is_history [.tuple ds] = some (.im (.bool (fstB 0 ds).isNone)) := by
  have run : ∀ r, g_is_history [im (.tuple ds), none, none] = some (.rt (.im (.bool (fstB 0 ds).isNone)) r) → F_is_history [.tuple ds] = some (.im (.bool (fstB 0 ds).isNone)) := fun r h => by
    show (if [PyData.tuple ds].length = 1 then (match g_is_history [im (.tuple ds), none, none] with | some (.rt r e) => finR r e | some (.nx _) => some (.im .none) | _ => none) else none) = _
    rw [if_pos (show [PyData.tuple ds].length = 1 from rfl), h]
    rfl
  have first : ∀ {g : Fs}, s_seq (s_if (t_not (t_of (x_isi .tuple (x_var 0)))) (s_ret (x_c (.bool false))) s_nx) g [im (.tuple ds), none, none] = g [im (.tuple ds), none, none] := sseq_nx ((s_ifF is_tup).trans rfl)
  cases h : fstB 0 ds with
  | none =>
    obtain ⟨a, b, e⟩ := go_none (D := .tuple ds) (fb := s_if (t_or (t_not (t_of (x_call F_is_number [] (a_cons (x_var 2) a_nil)))) (t_of (x_bin q_gt (x_var 2) (x_var 1)))) (s_ret (x_c (.bool false))) s_nx) (fun k x g p => (s_ifF (by rw [test_of p, fst_good g])).trans rfl) ds 0 none none hp h
    rw [h] at run
    exact run _ (first.trans ((sseq_nx ((s_for_of (en_of ds)).trans e)).trans rfl))
  | some j =>
    obtain ⟨x, e⟩ := go_some (D := .tuple ds) (fb := s_if (t_or (t_not (t_of (x_call F_is_number [] (a_cons (x_var 2) a_nil)))) (t_of (x_bin q_gt (x_var 2) (x_var 1)))) (s_ret (x_c (.bool false))) s_nx) (o := fun k x => some (.rt (.im (.bool false)) [im (.tuple ds), im (.int (k : Int)), im x])) (fun k x => .inr ⟨_, _, rfl⟩) (fun k x g p => (s_ifF (by rw [test_of p, fst_good g])).trans rfl) (fun k x g p => (s_ifT (by rw [test_of p, fst_bad g])).trans rfl) ds 0 j none none hp h
    rw [h] at run
    exact run _ (first.trans (sseq_rt ((s_for_of (en_of ds)).trans e)))
theorem hist_no {d : PyData} (h : plain d = true) (n : ∀ ds, d ≠ .tuple ds) : F_is_history [d] = some (.im (.bool false)) := by
  cases d with
  | tuple ds => exact (n ds rfl).elim
  | dict _ => cases h
  | int i => rfl
  | none => rfl
  | bool b => rfl
  | str s => rfl
  | list l => rfl
def ip (w : Str) (j : Int) : Xc := ⟨"InvalidPaper", [("at", .int j), ("word", .str w)]⟩
theorem lets_good {ds : List PyData} (hp : ds.all plain = true) (h : fstB 0 ds = none) : F_lets_history [.tuple ds] = some (.im (.int ds.length)) := by
  obtain ⟨a, b, e⟩ := go_none (D := .tuple ds) (fb := s_if (t_or (t_not (t_of (x_call F_is_number [] (a_cons (x_var 2) a_nil)))) (t_of (x_bin q_gt (x_var 2) (x_var 1)))) s_no s_nx) (fun k x g p => (s_ifF (by rw [test_of p, fst_good g])).trans rfl) ds 0 none none hp h
  have first : ∀ {g : Fs}, s_seq (s_if (t_not (t_of (x_isi .tuple (x_var 0)))) s_no s_nx) g [im (.tuple ds), none, none] = g [im (.tuple ds), none, none] := sseq_nx ((s_ifF is_tup).trans rfl)
  have z : g_lets_history [im (.tuple ds), none, none] = some (.rt (.im (.int ds.length)) [im (.tuple ds), a, b]) := first.trans ((sseq_nx ((s_for_of (en_of ds)).trans e)).trans rfl)
  show (if [PyData.tuple ds].length = 1 then (match g_lets_history [im (.tuple ds), none, none] with | some (.rt r e) => finR r e | some (.nx _) => some (.im .none) | _ => none) else none) = _
  rw [if_pos (show [PyData.tuple ds].length = 1 from rfl), z]
  rfl
theorem lets_bad {ds : List PyData} {j : Nat} (hp : ds.all plain = true) (h : fstB 0 ds = some j) : FX_lets_history [.tuple ds] = some (.inr (ip "parent" (j : Int))) := by
  have no : F_lets_history [.tuple ds] = none := by
    obtain ⟨x, e⟩ := go_some (D := .tuple ds) (fb := s_if (t_or (t_not (t_of (x_call F_is_number [] (a_cons (x_var 2) a_nil)))) (t_of (x_bin q_gt (x_var 2) (x_var 1)))) s_no s_nx) (o := fun _ _ => none) (fun _ _ => .inl rfl) (fun k x g p => (s_ifF (by rw [test_of p, fst_good g])).trans rfl) (fun k x g p => (s_ifT (by rw [test_of p, fst_bad g])).trans rfl) ds 0 j none none hp h
    have first : ∀ {g : Fs}, s_seq (s_if (t_not (t_of (x_isi .tuple (x_var 0)))) s_no s_nx) g [im (.tuple ds), none, none] = g [im (.tuple ds), none, none] := sseq_nx ((s_ifF is_tup).trans rfl)
    have z : g_lets_history [im (.tuple ds), none, none] = none := first.trans (sseq_no ((s_for_of (en_of ds)).trans e))
    show (if [PyData.tuple ds].length = 1 then (match g_lets_history [im (.tuple ds), none, none] with | some (.rt r e) => finR r e | some (.nx _) => some (.im .none) | _ => none) else none) = _
    rw [if_pos (show [PyData.tuple ds].length = 1 from rfl), z]
  obtain ⟨e, q⟩ := go_raise (D := .tuple ds) (y := fun k => ip "parent" (k : Int)) (fb := x_ifS (t_or (t_not (t_of (x_call F_is_number [] (a_cons (x_var 2) a_nil)))) (t_of (x_bin q_gt (x_var 2) (x_var 1)))) (x_raise "InvalidPaper" ["word", "at"] (a_cons (x_c (.str "parent")) (a_cons (x_var 1) a_nil))) (xS s_nx)) (fun k x g p => (x_ifSF (by rw [test_of p, fst_good g])).trans rfl) (fun k x g p => ⟨_, (x_ifST (by rw [test_of p, fst_bad g])).trans rfl⟩) ds 0 j none none hp h
  have first : ∀ {g : Fsx}, x_seq (x_ifS (t_not (t_of (x_isi .tuple (x_var 0)))) (x_raise "InvalidPaper" ["word", "at"] (a_cons (x_c (.str "shape")) (a_cons (x_neg (x_c (.int 1))) a_nil))) (xS s_nx)) g [im (.tuple ds), none, none] = g [im (.tuple ds), none, none] := xseq_nx ((x_ifSF is_tup).trans rfl)
  have z : gx_lets_history [im (.tuple ds), none, none] = some (.inr (ip "parent" (j : Int), e)) := first.trans (xseq_inr ((x_for_of (en_of ds)).trans q))
  have two : FX_lets_history [.tuple ds] = FY_lets_history [.tuple ds] := by
    unfold FX_lets_history orRx
    rw [no]
  rw [two]
  exact runX_inr rfl z
theorem lets_no {d : PyData} (h : plain d = true) (n : ∀ ds, d ≠ .tuple ds) : FX_lets_history [d] = some (.inr (ip "shape" (-1))) := by
  cases d with
  | tuple ds => exact (n ds rfl).elim
  | dict _ => cases h
  | int i => rfl
  | none => rfl
  | bool b => rfl
  | str s => rfl
  | list l => rfl
end K02
namespace K02
open PySem PySem.Spec PyProof.Rows L2 DL
theorem fault_step {ds : List PyData} {k : Nat} (hk : k < ds.length) (hp : plain ds[k] = true) : f_w_fault_L1 (.tuple ds) (k : Int) = if gd k ds[k] = true then some (.nx ()) else some (.rt (some (("parent" : Str), (k : Int)))) := by
  have x : vD (p_ix (.tuple ds) (.int (k : Int))) = some ds[k] := ix_tup hk
  have fin : ∀ b : Bool, ((some b).bind fun t16 => if t16 = true then some (Lp.rt (σ := Unit) (some (("parent" : Str), (k : Int)))) else some (.nx ())) = if (!b) = true then some (.nx ()) else some (.rt (some (("parent" : Str), (k : Int)))) := fun b => by cases b <;> rfl
  have g : gd k ds[k] = (!(!gd k ds[k])) := by simp
  unfold f_w_fault_L1
  refine bs x ?_
  rw [g, ← fin]
  generalize ds[k] = d at x hp
  cases d with
  | dict _ => cases hp
  | none => exact bs rfl (bs (a := true) rfl rfl)
  | str s => exact bs rfl (bs (a := true) rfl rfl)
  | list l => exact bs rfl (bs (a := true) rfl rfl)
  | tuple l => exact bs rfl (bs (a := true) rfl rfl)
  | bool b => exact bs rfl (bs (a := true) (orF1 (bs x (bs (a := true) rfl rfl))) rfl)
  | int i =>
    refine bs (a := true) rfl (bs (a := !gd k (.int i)) (orF1 (bs x (bs (a := false) rfl (bs (a := !gd k (.int i)) (orF1 (bs x (bs (bD_lt i 0) (bs (a := !gd k (.int i)) ?_ rfl)))) rfl)))) rfl)
    show _ = some (!decide (0 ≤ i ∧ i ≤ (k : Int)))
    by_cases z : i < 0
    · rw [decide_eq_true z, decide_eq_false (by omega)]
      rfl
    · rw [decide_eq_false z]
      refine orF1 (bs x (bs (bD_gt i (k : Int)) (congrArg some ?_)))
      by_cases y : (k : Int) < i
      · rw [decide_eq_true y, decide_eq_false (by omega)]
        rfl
      · rw [decide_eq_false y, decide_eq_true (by omega)]
        rfl
theorem forG_nx {α σ ρ : Type} {body : α → σ → Option (Lp σ ρ)} {a : α} {l : List α} {s s' : σ} (h : body a s = some (.nx s')) : forG body (a :: l) s = forG body l s' := by
  show (body a s).bind _ = _
  rw [h]
  rfl
theorem forG_rt {α σ ρ : Type} {body : α → σ → Option (Lp σ ρ)} {a : α} {l : List α} {s : σ} {r : ρ} (h : body a s = some (.rt r)) : forG body (a :: l) s = some (.rt r) := by
  show (body a s).bind _ = _
  rw [h]
  rfl
theorem s_ret_of {f : Fe} {e e1 : Ev} {r : Rs} (h : f e = some (r, e1)) : s_ret f e = some (.rt r e1) := by
  unfold s_ret
  rw [h]
theorem fault_go {ds : List PyData} (hp : ds.all plain = true) : ∀ (m k : Nat), k + m = ds.length → forG (fun x_1 (s_ : Unit) => f_w_fault_L1 (.tuple ds) x_1) ((List.range' k m).map fun (j : Nat) => (j : Int)) () = match fstB k (ds.drop k) with
    | none => some (.nx ())
    | some j => some (.rt (some (("parent" : Str), (j : Int))))
  | 0, k, h => by
    rw [List.drop_of_length_le (by omega)]
    rfl
  | m + 1, k, h => by
    have hk : k < ds.length := by omega
    have pk : plain ds[k] = true := List.all_eq_true.mp hp _ (List.getElem_mem hk)
    rw [List.drop_eq_getElem_cons hk]
    rw [List.range'_succ, List.map_cons]
    unfold fstB
    by_cases g : gd k ds[k] = true
    · rw [if_pos g, forG_nx (s' := ()) (by rw [fault_step hk pk, if_pos g])]
      exact fault_go hp m (k + 1) (by omega)
    · rw [if_neg g, forG_rt (r := some (("parent" : Str), (k : Int))) (by rw [fault_step hk pk, if_neg g])]
def faultOf (ds : List PyData) : Option (Str × Int) := (fstB 0 ds).map fun j => (("parent" : Str), (j : Int))
theorem fault_tup {ds : List PyData} (hp : ds.all plain = true) (hl : ds.length ≤ 1000000) : f_w_fault (.tuple ds) = some (faultOf ds) := by
  unfold f_w_fault
  refine bs (a := true) rfl (iF rfl (bs (len_tup ds) (bs (rng1O_n hl) ?_)))
  have z := fault_go hp ds.length 0 (by omega)
  rw [← List.range_eq_range', List.drop_zero] at z
  unfold faultOf
  cases h : fstB 0 ds with
  | none =>
    rw [h] at z
    rw [thenL_nx z]
    rfl
  | some j =>
    rw [h] at z
    rw [thenL_rt z]
    rfl
theorem fault_no {d : PyData} (h : plain d = true) (n : ∀ ds, d ≠ .tuple ds) : f_w_fault d = some (some (("shape" : Str), (-1 : Int))) := by
  cases d with
  | tuple ds => exact (n ds rfl).elim
  | dict _ => cases h
  | int i => rfl
  | none => rfl
  | bool b => rfl
  | str s => rfl
  | list l => rfl
theorem same_ok {a b : PyData} (h : f_w_same a b = some true) : F__law_same [a, b] = some (.im (.bool true)) := k__law_same h
abbrev faultD (o : Option (Str × Int)) : PyData := opt (p2 PyData.str PyData.int) o
theorem head_of {d : PyData} {o : Option (Str × Int)} {rest : Fs} {r : Rs} (hf : f_w_fault d = some o) (hh : F_is_history [d] = some (.im (.bool o.isNone))) (hr : ∃ e, rest [im d, im (faultD o), none, none] = some (.rt r e)) :
    ∃ e, (s_seq (s_setF 1 (x_call F__law_fault [] (a_cons (x_var 0) a_nil))) (s_seq (s_if (t_or (t_not (t_of (x_call F__law_same [] (a_cons (x_call F_is_history [] (a_cons (x_var 0) a_nil)) (a_cons (x_bin p_is (x_var 1) (x_c .none)) a_nil))))) (t_not (t_of (x_call F__law_same [] (a_cons (x_callK F_is_history [0] a_nil (a_cons (x_var 0) a_nil)) (a_cons (x_bin p_is (x_var 1) (x_c .none)) a_nil))))))
      (s_ret (x_c (.bool false))) s_nx) rest)) [im d, none, none, none] = some (.rt r e) := by
  obtain ⟨e, hr⟩ := hr
  refine ⟨e, ?_⟩
  have s1 : s_setF 1 (x_call F__law_fault [] (a_cons (x_var 0) a_nil)) [im d, none, none, none] = some (.nx [im d, im (faultD o), none, none]) :=
    setF (callI (dds := []) (aI (vI (i := 0) (e := [im d, none, none, none]) rfl) a0) rfl (k__law_fault hf)) rfl rfl
  have is : x_bin p_is (x_var 1) (x_c .none) [im d, im (faultD o), none, none] = some (.im (.bool o.isNone), [im d, im (faultD o), none, none]) := binI (vI rfl) cI (o_isO (f := p2 PyData.str PyData.int) o)
  have sm := same_ok (same_of (a := .bool o.isNone) (b := .bool o.isNone) rfl True.intro)
  have c1 : x_call F_is_history [] (a_cons (x_var 0) a_nil) [im d, im (faultD o), none, none] = some (.im (.bool o.isNone), [im d, im (faultD o), none, none]) := callI (dds := []) (aI (vI rfl) a0) rfl hh
  have c2 : x_callK F_is_history [0] a_nil (a_cons (x_var 0) a_nil) [im d, im (faultD o), none, none] = some (.im (.bool o.isNone), [im d, im (faultD o), none, none]) := callKI a0 (aI (vI rfl) a0) rfl hh
  have t : t_or (t_not (t_of (x_call F__law_same [] (a_cons (x_call F_is_history [] (a_cons (x_var 0) a_nil)) (a_cons (x_bin p_is (x_var 1) (x_c .none)) a_nil))))) (t_not (t_of (x_call F__law_same [] (a_cons (x_callK F_is_history [0] a_nil (a_cons (x_var 0) a_nil)) (a_cons (x_bin p_is (x_var 1) (x_c .none)) a_nil))))) [im d, im (faultD o), none, none] = some (false, [im d, im (faultD o), none, none]) :=
    torF (tnot (bang (callI (dds := []) (aI c1 (aI is a0)) rfl sm))) (tnot (bang (callI (dds := []) (aI c2 (aI is a0)) rfl sm)))
  rw [sseq_nx s1, sseq_nx ((s_ifF t).trans rfl)]
  exact hr
theorem judged_of {d : PyData} {o : Option (Str × Int)} (hf : f_w_fault d = some o) (hh : F_is_history [d] = some (.im (.bool o.isNone)))
    (hg : o = none → ∃ n : Nat, F_lets_history [d] = some (.im (.int n)) ∧ c_len [d] = some (.im (.int n))) (hb : ∀ w j, o = some (w, j) → FX_lets_history [d] = some (.inr (ip w j)) ∧ bD (p_eq (.str w) (.str w)) = some true) : f_w_judged d = some true := by
  refine chI_eq (fun _ _ h => by cases h; rfl) ?_
  suffices z : ∃ e, g__law_judged [im d, none, none, none] = some (.rt (.im (.bool true)) e) by
    obtain ⟨e, z⟩ := z
    show (if [d].length = 1 then (match g__law_judged [im d, none, none, none] with | some (.rt r e) => finR r e | some (.nx _) => some (.im .none) | _ => none) else none) = _
    rw [if_pos (show [d].length = 1 from rfl), z]
    rfl
  refine head_of hf hh ?_
  have arg : argsI (a_cons (x_var 0) a_nil) [im d, im (faultD o), none, none] = some ([d], [im d, im (faultD o), none, none]) := aI (vI rfl) a0
  cases o with
  | none =>
    obtain ⟨n, h1, h2⟩ := hg rfl
    have fx : FX_lets_history [d] = some (.inl (.im (.int n))) := by
      unfold FX_lets_history
      exact orRx_of h1
    have c : x_callX FX_lets_history [] (a_cons (x_var 0) a_nil) [im d, im (faultD none), none, none] = some (.inl (.im (.int n), [im d, im (faultD none), none, none])) := by
      unfold x_callX
      rw [arg]
      dsimp only
      rw [List.append_nil, fx]
    have s1 : x_set 3 (x_callX FX_lets_history [] (a_cons (x_var 0) a_nil)) [im d, im (faultD none), none, none] = some (.inl (.nx [im d, im (faultD none), none, im (.int n)])) := by
      unfold x_set
      rw [c]
      rfl
    have is : x_bin p_is (x_var 1) (x_c .none) [im d, im (faultD none), none, im (.int n)] = some (.im (.bool true), [im d, im (faultD none), none, im (.int n)]) := binI (vI rfl) cI (o_isO (f := p2 PyData.str PyData.int) none)
    have len : x_cb c_len (a_cons (x_var 0) a_nil) [im d, im (faultD none), none, im (.int n)] = some (.im (.int n), [im d, im (faultD none), none, im (.int n)]) := cbI1 (vI rfl) h2
    have sm := same_ok (same_of (a := .int n) (b := .int n) rfl True.intro)
    have lk : x_callK F_lets_history [0] a_nil (a_cons (x_var 0) a_nil) [im d, im (faultD none), none, im (.int n)] = some (.im (.int n), [im d, im (faultD none), none, im (.int n)]) := callKI a0 (aI (vI rfl) a0) rfl h1
    have r := andT is (andT (callI (dds := []) (aI (vI (i := 3) (e := [im d, im (faultD none), none, im (.int n)]) rfl) (aI len a0)) rfl sm) (callI (dds := []) (aI lk (aI len a0)) rfl sm))
    refine ⟨_, sseq_rt (r := .im (.bool true)) (e1 := [im d, im (faultD none), none, im (.int n)]) ?_⟩
    have b : (x_seq (x_set 3 (x_callX FX_lets_history [] (a_cons (x_var 0) a_nil))) (x_seq (xS (s_ret (x_and (x_bin p_is (x_var 1) (x_c .none)) (x_and (x_call F__law_same [] (a_cons (x_var 3) (a_cons (x_cb c_len (a_cons (x_var 0) a_nil)) a_nil))) (x_call F__law_same [] (a_cons (x_callK F_lets_history [0] a_nil (a_cons (x_var 0) a_nil)) (a_cons (x_cb c_len (a_cons (x_var 0) a_nil)) a_nil))))))) (xS s_nx))) [im d, im (faultD none), none, none] = some (.inl (.rt (.im (.bool true)) [im d, im (faultD none), none, im (.int n)])) := by
      rw [xseq_nx s1]
      have s2 : xS (s_ret (x_and (x_bin p_is (x_var 1) (x_c .none)) (x_and (x_call F__law_same [] (a_cons (x_var 3) (a_cons (x_cb c_len (a_cons (x_var 0) a_nil)) a_nil))) (x_call F__law_same [] (a_cons (x_callK F_lets_history [0] a_nil (a_cons (x_var 0) a_nil)) (a_cons (x_cb c_len (a_cons (x_var 0) a_nil)) a_nil)))))) [im d, im (faultD none), none, im (.int n)] = some (.inl (.rt (.im (.bool true)) [im d, im (faultD none), none, im (.int n)])) := by
        unfold xS s_ret
        rw [r]
        rfl
      unfold x_seq
      rw [s2]
    unfold noX
    rw [x_try_no b]
  | some p =>
    obtain ⟨w, j⟩ := p
    obtain ⟨h1, h2⟩ := hb w j rfl
    have c : x_callX FX_lets_history [] (a_cons (x_var 0) a_nil) [im d, im (faultD (some (w, j))), none, none] = some (.inr (ip w j, [im d, im (faultD (some (w, j))), none, none])) := by
      unfold x_callX
      rw [arg]
      dsimp only
      rw [List.append_nil, h1]
    have s1 : x_set 3 (x_callX FX_lets_history [] (a_cons (x_var 0) a_nil)) [im d, im (faultD (some (w, j))), none, none] = some (.inr (ip w j, [im d, im (faultD (some (w, j))), none, none])) := by
      unfold x_set
      rw [c]
    refine ⟨_, sseq_rt (r := .im (.bool true)) (e1 := [im d, im (faultD (some (w, j))), none, none]) ?_⟩
    have t := x_try_yes (fb := x_seq (x_set 3 (x_callX FX_lets_history [] (a_cons (x_var 0) a_nil))) (x_seq (xS (s_ret (x_and (x_bin p_is (x_var 1) (x_c .none)) (x_and (x_call F__law_same [] (a_cons (x_var 3) (a_cons (x_cb c_len (a_cons (x_var 0) a_nil)) a_nil))) (x_call F__law_same [] (a_cons (x_callK F_lets_history [0] a_nil (a_cons (x_var 0) a_nil)) (a_cons (x_cb c_len (a_cons (x_var 0) a_nil)) a_nil))))))) (xS s_nx))) (sub := tabF xtab "InvalidPaper") (i := 2) (g := fun k a dd =>
        (s_seq (s_if (t_of (x_bin p_is (x_var 1) (x_c .none))) (s_ret (x_c (.bool false))) s_nx)
        (s_seq (s_ret (x_call F__law_same [] (a_cons (x_tup (a_cons (x_fld xok k a dd 2 "word") (a_cons (x_fld xok k a dd 2 "at") (a_cons (x_isE (tabF xtab "PaperError") k a dd 2) (a_cons (x_isE (tabF xtab "BookError") k a dd 2) a_nil))))) (a_cons (x_bin p_add (x_var 1) (x_tup (a_cons (x_c (.bool true)) (a_cons (x_c (.bool false)) a_nil)))) a_nil)))) s_nx)))
      (xseq_inr s1) (by rfl) rfl (fl := .rt (.im (.bool true)) [im d, im (faultD (some (w, j))), none, none]) (fun a dd fs => ⟨.rt (.im (.bool true)) [im d, im (faultD (some (w, j))), some (.ob (.xc a dd fs [("at", .int j), ("word", .str w)])), none], ?_, rfl⟩)
    · unfold noX
      rw [t]
    · obtain ⟨E, hE⟩ : ∃ E : Ev, E = [im d, im (faultD (some (w, j))), some (.ob (.xc a dd fs [("at", .int j), ("word", .str w)])), none] := ⟨_, rfl⟩
      have f1 : x_fld xok "InvalidPaper" a dd 2 "word" E = some (.im (.str w), E) := by
        subst hE
        unfold x_fld
        rw [if_pos (by rfl)]
        show (if a = a ∧ dd = dd then _ else _) = _
        rw [if_pos ⟨rfl, rfl⟩]
        rfl
      have f2 : x_fld xok "InvalidPaper" a dd 2 "at" E = some (.im (.int j), E) := by
        subst hE
        unfold x_fld
        rw [if_pos (by rfl)]
        show (if a = a ∧ dd = dd then _ else _) = _
        rw [if_pos ⟨rfl, rfl⟩]
        rfl
      have f3 : x_isE (tabF xtab "PaperError") "InvalidPaper" a dd 2 E = some (.im (.bool true), E) := by
        subst hE
        unfold x_isE
        show (if a = a ∧ dd = dd then _ else _) = _
        rw [if_pos ⟨rfl, rfl⟩]
        rfl
      have f4 : x_isE (tabF xtab "BookError") "InvalidPaper" a dd 2 E = some (.im (.bool false), E) := by
        subst hE
        unfold x_isE
        show (if a = a ∧ dd = dd then _ else _) = _
        rw [if_pos ⟨rfl, rfl⟩]
        rfl
      have v1 : E[1]? = some (some (.im (.tuple [.str w, .int j]))) := by
        subst hE
        rfl
      have is : t_of (x_bin p_is (x_var 1) (x_c .none)) E = some (false, E) := bang (binI (vI v1) cI rfl)
      have ad : x_bin p_add (x_var 1) (x_tup (a_cons (x_c (.bool true)) (a_cons (x_c (.bool false)) a_nil))) E = some (.im (.tuple [.str w, .int j, .bool true, .bool false]), E) := binI (vI v1) (tupI (aI cI (aI cI a0)) (Nat.le_of_ble_eq_true rfl)) rfl
      have tu : x_tup (a_cons (x_fld xok "InvalidPaper" a dd 2 "word") (a_cons (x_fld xok "InvalidPaper" a dd 2 "at") (a_cons (x_isE (tabF xtab "PaperError") "InvalidPaper" a dd 2) (a_cons (x_isE (tabF xtab "BookError") "InvalidPaper" a dd 2) a_nil)))) E = some (.im (.tuple [.str w, .int j, .bool true, .bool false]), E) := tupI (aI f1 (aI f2 (aI f3 (aI f4 a0)))) (Nat.le_of_ble_eq_true rfl)
      have sm := same_ok (same_of (a := .tuple [.str w, .int j, .bool true, .bool false]) (b := .tuple [.str w, .int j, .bool true, .bool false]) rfl (pn_cons (by show 4 ≤ _; omega) fun x hx => by
        rcases List.mem_cons.mp hx with z | hx
        · rw [z]; exact h2
        rcases List.mem_cons.mp hx with z | hx
        · rw [z]; exact True.intro
        rcases List.mem_cons.mp hx with z | hx
        · rw [z]; exact True.intro
        · rw [List.mem_singleton.mp hx]; exact True.intro))
      show s_seq _ _ [im d, im (faultD (some (w, j))), some (.ob (.xc a dd fs [("at", .int j), ("word", .str w)])), none] = _
      rw [← hE]
      exact (sseq_nx ((s_ifF is).trans rfl)).trans (sseq_rt (s_ret_of (callI (dds := []) (aI tu (aI ad a0)) rfl sm)))
theorem v_judged {d : PyData} (h : plain d = true) (ht : ∀ ds, d = .tuple ds → ds.all plain = true ∧ ds.length ≤ 1000000) : f_w_judged d = some true := by
  by_cases z : ∃ ds, d = .tuple ds
  · obtain ⟨ds, rfl⟩ := z
    obtain ⟨hp, hl⟩ := ht ds rfl
    have hh := hist_tup hp
    refine judged_of (fault_tup hp hl) ?_ (fun q => ⟨ds.length, lets_good hp ?_, rfl⟩) fun w j q => ?_
    · rw [hh]
      unfold faultOf
      cases fstB 0 ds <;> rfl
    · unfold faultOf at q
      cases e : fstB 0 ds with
      | none => rfl
      | some j => rw [e] at q; cases q
    · unfold faultOf at q
      cases e : fstB 0 ds with
      | none => rw [e] at q; cases q
      | some i =>
        rw [e] at q
        cases q
        exact ⟨lets_bad hp e, by kernel_rfl⟩
  · have n : ∀ ds, d ≠ .tuple ds := fun ds q => z ⟨ds, q⟩
    refine judged_of (fault_no h n) (hist_no h n) (fun q => by cases q) fun w j q => ?_
    cases q
    exact ⟨lets_no h n, by kernel_rfl⟩
end K02
namespace K02
open PySem PySem.Spec PyProof.Rows L2 DL
def nu (w : Str) : Xc := ⟨"NotUsable", [("at", .int (-1)), ("word", .str w)]⟩
def vg (l : Int) (n : Nat) : PyData → Bool
  | .int i => decide (0 ≤ i) && (decide (l ≤ i) && decide (i ≤ (n : Int)))
  | _ => false
theorem call_no {φ : List PyData → Option Rs} {dds ds : List PyData} {fa : Fa} {e e1 : Ev} (ha : argsI fa e = some (ds, e1)) (h : φ (ds ++ dds) = none) : x_call φ dds fa e = none := by
  rw [r_x_call, ha]
  dsimp only
  rw [h]
theorem drop_no {f : Fe} {e : Ev} (h : f e = none) : s_drop f e = none := by
  unfold s_drop
  rw [h]
theorem drop_ok {f : Fe} {e e1 : Ev} {r : Rs} (h : f e = some (r, e1)) : s_drop f e = some (.nx e1) := by
  unfold s_drop
  rw [h]
theorem callX_inr {φ : List PyData → Option Ro} {dds ds : List PyData} {fa : Fa} {e e1 : Ev} {x : Xc} (ha : argsI fa e = some (ds, e1)) (h : φ (ds ++ dds) = some (.inr x)) : x_callX φ dds fa e = some (.inr (x, e1)) := by
  unfold x_callX
  rw [ha]
  dsimp only
  rw [h]
theorem callX_inl {φ : List PyData → Option Ro} {dds ds : List PyData} {fa : Fa} {e e1 : Ev} {d : PyData} (ha : argsI fa e = some (ds, e1)) (h : φ (ds ++ dds) = some (.inl (.im d))) : x_callX φ dds fa e = some (.inl (.im d, e1)) := by
  unfold x_callX
  rw [ha]
  dsimp only
  rw [h]
theorem xdrop_inr {f : Fex} {e : Ev} {y : Xc × Ev} (h : f e = some (.inr y)) : x_drop f e = some (.inr y) := by
  unfold x_drop
  rw [h]
theorem xdrop_inl {f : Fex} {e e1 : Ev} {r : Rs} (h : f e = some (.inl (r, e1))) : x_drop f e = some (.inl (.nx e1)) := by
  unfold x_drop
  rw [h]
theorem orRx_no {φ : List PyData → Option Rs} {ψ : List PyData → Option Ro} {ds : List PyData} {o : Option Ro} (h : φ ds = none) (k : ψ ds = o) : orRx φ ψ ds = o := by
  unfold orRx
  rw [h]
  exact k
theorem fst_vg {l : Int} {n : Nat} {x : PyData} (b : vg l n x = false) : (!vg l n x) = true := by rw [b]; rfl
section
variable {P : List Nat}
theorem chk_test {x : PyData} {w : Str} {l : Int} (h : plain x = true) : t_or (t_not (t_of (x_call F_is_number [] (a_cons (x_var 2) a_nil)))) (t_not (t_of (x_chain q_le q_le (x_var 3) (x_var 2) (x_cb c_len (a_cons (x_var 0) a_nil))))) [im (tp PyData.int (iN P)), im (.str w), im x, im (.int l)] = some (!vg l P.length x, [im (tp PyData.int (iN P)), im (.str w), im x, im (.int l)]) := by
  have n : t_of (x_call F_is_number [] (a_cons (x_var 2) a_nil)) [im (tp PyData.int (iN P)), im (.str w), im x, im (.int l)] = some (numB x, [im (tp PyData.int (iN P)), im (.str w), im x, im (.int l)]) := bang (callI (dds := []) (aI (vI (i := 2) (e := [im (tp PyData.int (iN P)), im (.str w), im x, im (.int l)]) rfl) a0) rfl (num_of h))
  cases x with
  | int i =>
    have c := torXt (tnot n) (tnot (bang (chX (a := .int l) (b := .int i) (vI (i := 3) (e := [im (tp PyData.int (iN P)), im (.str w), im (.int i), im (.int l)]) rfl) (vI (i := 2) (e := [im (tp PyData.int (iN P)), im (.str w), im (.int i), im (.int l)]) rfl) (cbX (dX (vI (i := 0) (e := [im (tp PyData.int (iN P)), im (.str w), im (.int i), im (.int l)]) rfl) d0 rfl) (o_lenT (f := PyData.int) (l := iN P))) rfl rfl rfl e_qle e_qle)))
    refine c.trans ?_
    have e : (!numB (.int i) || !(decide (l ≤ i) && decide (i ≤ ((iN P).length : Int)))) = !vg l P.length (.int i) := by
      rw [len_iN]
      show (!decide (0 ≤ i) || !(decide (l ≤ i) && decide (i ≤ (P.length : Int)))) = !(decide (0 ≤ i) && (decide (l ≤ i) && decide (i ≤ (P.length : Int))))
      cases decide (0 ≤ i) <;> cases decide (l ≤ i) <;> cases decide (i ≤ (P.length : Int)) <;> rfl
    rw [e]
  | dict _ => cases h
  | none => exact torT (tnot n)
  | bool b => exact torT (tnot n)
  | str s => exact torT (tnot n)
  | list l => exact torT (tnot n)
  | tuple l => exact torT (tnot n)
theorem chk_no {x : PyData} {w : Str} {l : Int} (h : plain x = true) (b : vg l P.length x = false) : F_check_version [tp PyData.int (iN P), .str w, x, .int l] = none :=
  runF_no (n := 4) (nl := 0) (g := g_check_version) ((s_ifT (by rw [← fst_vg b]; exact chk_test h)).trans rfl)
theorem chk_bad {x : PyData} {w : Str} {l : Int} (h : plain x = true) (b : vg l P.length x = false) : FX_check_version [tp PyData.int (iN P), .str w, x, .int l] = some (.inr (nu w)) :=
  orRx_no (chk_no h b) (runX_inr (n := 4) (nl := 0) (g := gx_check_version) rfl ((x_ifST (by rw [← fst_vg b]; exact chk_test h)).trans rfl))
theorem chk_ok {v : Nat} {w : Str} (hv : v ≤ P.length) : F_check_version [tp PyData.int (iN P), .str w, .int (v : Int), .int 0] = some (.im .none) := k_check_version (q_check hv)
theorem chk_okX {v : Nat} {w : Str} (hv : v ≤ P.length) : FX_check_version [tp PyData.int (iN P), .str w, .int (v : Int), .int 0] = some (.inl (.im .none)) := orRx_of (chk_ok hv)
theorem bad_parent_of {x : PyData} (h : plain x = true) (b : vg 1 P.length x = false) : FX_parent_of [tp PyData.int (iN P), x] = some (.inr (nu "version")) :=
  orRx_no (runF_no (n := 2) (nl := 0) (g := g_parent_of) (sseq_no (drop_no (call_no rfl (chk_no h b))))) (runX_inr (n := 2) (nl := 0) (g := gx_parent_of) rfl (xseq_inr (xdrop_inr (callX_inr rfl (chk_bad h b)))))
theorem bad_elders_of {x : PyData} (h : plain x = true) (b : vg 0 P.length x = false) : FX_elders_of [tp PyData.int (iN P), x] = some (.inr (nu "version")) :=
  orRx_no (runF_no (n := 2) (nl := 0) (g := g_elders_of) (sseq_no (drop_no (call_no rfl (chk_no h b))))) (runX_inr (n := 2) (nl := 0) (g := gx_elders_of) rfl (xseq_inr (xdrop_inr (callX_inr rfl (chk_bad h b)))))
theorem bad_path_of {x : PyData} (h : plain x = true) (b : vg 0 P.length x = false) : FX_path_of [tp PyData.int (iN P), x] = some (.inr (nu "version")) :=
  orRx_no (runF_no (n := 2) (nl := 2) (g := g_path_of) (sseq_no (drop_no (call_no rfl (chk_no h b))))) (runX_inr (n := 2) (nl := 2) (g := gx_path_of) rfl (xseq_inr (xdrop_inr (callX_inr rfl (chk_bad h b)))))
theorem bad_depth_of {x : PyData} (h : plain x = true) (b : vg 0 P.length x = false) : FX_depth_of [tp PyData.int (iN P), x] = some (.inr (nu "version")) :=
  orRx_no (runF_no (n := 2) (nl := 0) (g := g_depth_of) (sseq_no (drop_no (call_no rfl (chk_no h b))))) (runX_inr (n := 2) (nl := 0) (g := gx_depth_of) rfl (xseq_inr (xdrop_inr (callX_inr rfl (chk_bad h b)))))
theorem bad_children_of {x : PyData} (h : plain x = true) (b : vg 0 P.length x = false) : FX_children_of [tp PyData.int (iN P), x] = some (.inr (nu "version")) :=
  orRx_no (runF_no (n := 2) (nl := 2) (g := g_children_of) (sseq_no (drop_no (call_no rfl (chk_no h b))))) (runX_inr (n := 2) (nl := 2) (g := gx_children_of) rfl (xseq_inr (xdrop_inr (callX_inr rfl (chk_bad h b)))))
theorem bad_branch_of {x : PyData} (h : plain x = true) (b : vg 0 P.length x = false) : FX_branch_of [tp PyData.int (iN P), x] = some (.inr (nu "version")) :=
  orRx_no (runF_no (n := 2) (nl := 5) (g := g_branch_of) (sseq_no (drop_no (call_no rfl (chk_no h b))))) (runX_inr (n := 2) (nl := 5) (g := gx_branch_of) rfl (xseq_inr (xdrop_inr (callX_inr rfl (chk_bad h b)))))
theorem bad1_is_elder {x y : PyData} (h : plain x = true) (b : vg 0 P.length x = false) : FX_is_elder [tp PyData.int (iN P), x, y] = some (.inr (nu "one")) :=
  orRx_no (runF_no (n := 3) (nl := 0) (g := g_is_elder) (sseq_no (drop_no (call_no rfl (chk_no h b))))) (runX_inr (n := 3) (nl := 0) (g := gx_is_elder) rfl (xseq_inr (xdrop_inr (callX_inr rfl (chk_bad h b)))))
theorem bad2_is_elder {y : PyData} {v : Nat} (hv : v ≤ P.length) (h : plain y = true) (b : vg 0 P.length y = false) : FX_is_elder [tp PyData.int (iN P), .int (v : Int), y] = some (.inr (nu "other")) :=
  orRx_no (runF_no (n := 3) (nl := 0) (g := g_is_elder) ((sseq_nx (drop_ok (callI rfl rfl (chk_ok hv)))).trans (sseq_no (drop_no (call_no rfl (chk_no h b)))))) (runX_inr (n := 3) (nl := 0) (g := gx_is_elder) rfl ((xseq_nx (xdrop_inl (callX_inl rfl (chk_okX hv)))).trans (xseq_inr (xdrop_inr (callX_inr rfl (chk_bad h b))))))
theorem bad1_meet_of {x y : PyData} (h : plain x = true) (b : vg 0 P.length x = false) : FX_meet_of [tp PyData.int (iN P), x, y] = some (.inr (nu "one")) :=
  orRx_no (runF_no (n := 3) (nl := 0) (g := g_meet_of) (sseq_no (drop_no (call_no rfl (chk_no h b))))) (runX_inr (n := 3) (nl := 0) (g := gx_meet_of) rfl (xseq_inr (xdrop_inr (callX_inr rfl (chk_bad h b)))))
theorem bad2_meet_of {y : PyData} {v : Nat} (hv : v ≤ P.length) (h : plain y = true) (b : vg 0 P.length y = false) : FX_meet_of [tp PyData.int (iN P), .int (v : Int), y] = some (.inr (nu "other")) :=
  orRx_no (runF_no (n := 3) (nl := 0) (g := g_meet_of) ((sseq_nx (drop_ok (callI rfl rfl (chk_ok hv)))).trans (sseq_no (drop_no (call_no rfl (chk_no h b)))))) (runX_inr (n := 3) (nl := 0) (g := gx_meet_of) rfl ((xseq_nx (xdrop_inl (callX_inl rfl (chk_okX hv)))).trans (xseq_inr (xdrop_inr (callX_inr rfl (chk_bad h b))))))
end
def bodyD : Fsx := (x_ifS (t_of (x_bin p_eq (x_var 0) (x_c (.int 0)))) (x_drop (x_callX FX_parent_of [] (a_cons (x_var 1) (a_cons (x_var 2) a_nil)))) (x_ifS (t_of (x_bin p_eq (x_var 0) (x_c (.int 1)))) (x_drop (x_callX FX_elders_of [] (a_cons (x_var 1) (a_cons (x_var 2) a_nil)))) (x_ifS (t_of (x_bin p_eq (x_var 0) (x_c (.int 2)))) (x_drop (x_callX FX_path_of [] (a_cons (x_var 1) (a_cons (x_var 2) a_nil)))) (x_ifS (t_of (x_bin p_eq (x_var 0) (x_c (.int 3)))) (x_drop (x_callX FX_depth_of [] (a_cons (x_var 1) (a_cons (x_var 2) a_nil)))) (x_ifS (t_of (x_bin p_eq (x_var 0) (x_c (.int 4)))) (x_drop (x_callX FX_children_of [] (a_cons (x_var 1) (a_cons (x_var 2) a_nil)))) (x_ifS (t_of (x_bin p_eq (x_var 0) (x_c (.int 5)))) (x_drop (x_callX FX_branch_of [] (a_cons (x_var 1) (a_cons (x_var 2) a_nil)))) (x_ifS (t_of (x_bin p_eq (x_var 0) (x_c (.int 6)))) (x_drop (x_callX FX_is_elder [] (a_cons (x_var 1) (a_cons (x_var 2) (a_cons (x_var 3) a_nil))))) (x_ifS (t_of (x_bin p_eq (x_var 0) (x_c (.int 7)))) (x_drop (x_callX FX_is_elder [] (a_cons (x_var 1) (a_cons (x_var 3) (a_cons (x_var 2) a_nil))))) (x_ifS (t_of (x_bin p_eq (x_var 0) (x_c (.int 8)))) (x_drop (x_callX FX_meet_of [] (a_cons (x_var 1) (a_cons (x_var 2) (a_cons (x_var 3) a_nil))))) (x_ifS (t_of (x_bin p_eq (x_var 0) (x_c (.int 9)))) (x_drop (x_callX FX_meet_of [] (a_cons (x_var 1) (a_cons (x_var 3) (a_cons (x_var 2) a_nil))))) (x_ifS (t_of (x_bin p_eq (x_var 0) (x_c (.int 10)))) (x_drop (x_callX FX_is_elder [] (a_cons (x_var 1) (a_cons (x_var 2) (a_cons (x_var 2) a_nil))))) (x_drop (x_callX FX_meet_of [] (a_cons (x_var 1) (a_cons (x_var 2) (a_cons (x_var 2) a_nil))))))))))))))))
abbrev refD (w : Str) : PyData := .tuple [.str w, .int (-1), .bool true, .bool false]
theorem same_ref {w : Str} (h : bD (p_eq (.str w) (.str w)) = some true) : f_w_same (refD w) ((p4 PyData.str PyData.int PyData.bool PyData.bool) (w, (-1 : Int), true, false)) = some true := same_of rfl (pn_cons (by show 4 ≤ _; omega) fun x hx => by
  rcases List.mem_cons.mp hx with z | hx
  · rw [z]; exact h
  rcases List.mem_cons.mp hx with z | hx
  · rw [z]; exact True.intro
  rcases List.mem_cons.mp hx with z | hx
  · rw [z]; exact True.intro
  · rw [List.mem_singleton.mp hx]; exact True.intro)
theorem same_let : f_w_same (.tuple [.str "let"]) ((p1 PyData.str) ("let" : Str)) = some true := same_of rfl (pn_cons (by show 1 ≤ _; omega) fun x hx => by
  rw [List.mem_singleton.mp hx]
  show bD _ = _
  kernel_rfl)
theorem door_ref {i v : Int} {T : List Int} {x : PyData} {w : Str} (h : bodyD [im (.int i), im (tp PyData.int T), im x, im (.int v), none] = some (.inr (nu w, [im (.int i), im (tp PyData.int T), im x, im (.int v), none]))) : f_w_door i T x v = some (refD w) := by
  refine chI_eq (fun _ _ h => h) ?_
  have t := x_try_yes (sub := tabF xtab "NotUsable") (i := 4) (g := fun k a dd => (s_ret (x_tup (a_cons (x_fld xok k a dd 4 "word") (a_cons (x_fld xok k a dd 4 "at") (a_cons (x_isE (tabF xtab "BookError") k a dd 4) (a_cons (x_isE (tabF xtab "PaperError") k a dd 4) a_nil))))))) h (by rfl) rfl
    (fl := .rt (.im (refD w)) [im (.int i), im (tp PyData.int T), im x, im (.int v), none]) (fun a dd fs => ⟨.rt (.im (refD w)) [im (.int i), im (tp PyData.int T), im x, im (.int v), some (.ob (.xc a dd fs [("at", .int (-1)), ("word", .str w)]))], ?_, rfl⟩)
  · have z : g__law_door [im (.int i), im (tp PyData.int T), im x, im (.int v), none] = some (.rt (.im (refD w)) [im (.int i), im (tp PyData.int T), im x, im (.int v), none]) := sseq_rt (by
      show noX (x_try bodyD _ _ _) _ = _
      unfold noX
      rw [t])
    show (if [PyData.int i, tp PyData.int T, x, .int v].length = 4 then (match g__law_door [im (.int i), im (tp PyData.int T), im x, im (.int v), none] with | some (.rt r e) => finR r e | some (.nx _) => some (.im .none) | _ => none) else none) = _
    rw [if_pos (show [PyData.int i, tp PyData.int T, x, .int v].length = 4 from rfl), z]
    rfl
  · obtain ⟨E, hE⟩ : ∃ E : Ev, E = [im (.int i), im (tp PyData.int T), im x, im (.int v), some (.ob (.xc a dd fs [("at", .int (-1)), ("word", .str w)]))] := ⟨_, rfl⟩
    have f1 : x_fld xok "NotUsable" a dd 4 "word" E = some (.im (.str w), E) := by
      subst hE
      unfold x_fld
      rw [if_pos (by rfl)]
      show (if a = a ∧ dd = dd then _ else _) = _
      rw [if_pos ⟨rfl, rfl⟩]
      rfl
    have f2 : x_fld xok "NotUsable" a dd 4 "at" E = some (.im (.int (-1)), E) := by
      subst hE
      unfold x_fld
      rw [if_pos (by rfl)]
      show (if a = a ∧ dd = dd then _ else _) = _
      rw [if_pos ⟨rfl, rfl⟩]
      rfl
    have f3 : x_isE (tabF xtab "BookError") "NotUsable" a dd 4 E = some (.im (.bool true), E) := by
      subst hE
      unfold x_isE
      show (if a = a ∧ dd = dd then _ else _) = _
      rw [if_pos ⟨rfl, rfl⟩]
      rfl
    have f4 : x_isE (tabF xtab "PaperError") "NotUsable" a dd 4 E = some (.im (.bool false), E) := by
      subst hE
      unfold x_isE
      show (if a = a ∧ dd = dd then _ else _) = _
      rw [if_pos ⟨rfl, rfl⟩]
      rfl
    show s_ret _ [im (.int i), im (tp PyData.int T), im x, im (.int v), some (.ob (.xc a dd fs [("at", .int (-1)), ("word", .str w)]))] = some (.rt _ [im (.int i), im (tp PyData.int T), im x, im (.int v), some (.ob (.xc a dd fs [("at", .int (-1)), ("word", .str w)]))])
    rw [← hE]
    exact s_ret_of (tupI (aI f1 (aI f2 (aI f3 (aI f4 a0)))) (Nat.le_of_ble_eq_true rfl))
theorem door_let {i v : Int} {T : List Int} {x : PyData} (h : bodyD [im (.int i), im (tp PyData.int T), im x, im (.int v), none] = some (.inl (.nx [im (.int i), im (tp PyData.int T), im x, im (.int v), none]))) : f_w_door i T x v = some (.tuple [.str "let"]) := by
  refine chI_eq (fun _ _ h => h) ?_
  have z : g__law_door [im (.int i), im (tp PyData.int T), im x, im (.int v), none] = some (.rt (.im (.tuple [.str "let"])) [im (.int i), im (tp PyData.int T), im x, im (.int v), none]) := (sseq_nx (by
    show noX (x_try bodyD _ _ _) _ = _
    unfold noX
    rw [x_try_no h])).trans (sseq_rt (s_ret_of (tupI (aI cI a0) (Nat.le_of_ble_eq_true rfl))))
  show (if [PyData.int i, tp PyData.int T, x, .int v].length = 4 then (match g__law_door [im (.int i), im (tp PyData.int T), im x, im (.int v), none] with | some (.rt r e) => finR r e | some (.nx _) => some (.im .none) | _ => none) else none) = _
  rw [if_pos (show [PyData.int i, tp PyData.int T, x, .int v].length = 4 from rfl), z]
  rfl
section
variable {P : List Nat} (hp : Par (gv P) P.length) (few : P.length ≤ 100)
theorem ref_0 {x : PyData} {v : Nat} (hv : v ≤ P.length) (h : plain x = true) (b : vg 1 P.length x = false) : f_w_door 0 (iN P) x (v : Int) = some (refD "version") :=
  door_ref ((x_ifST rfl).trans ((xdrop_inr (callX_inr rfl (bad_parent_of h b)))))
theorem ref_1 {x : PyData} {v : Nat} (hv : v ≤ P.length) (h : plain x = true) (b : vg 0 P.length x = false) : f_w_door 1 (iN P) x (v : Int) = some (refD "version") :=
  door_ref ((x_ifSF rfl).trans ((x_ifST rfl).trans ((xdrop_inr (callX_inr rfl (bad_elders_of h b))))))
theorem ref_2 {x : PyData} {v : Nat} (hv : v ≤ P.length) (h : plain x = true) (b : vg 0 P.length x = false) : f_w_door 2 (iN P) x (v : Int) = some (refD "version") :=
  door_ref ((x_ifSF rfl).trans ((x_ifSF rfl).trans ((x_ifST rfl).trans ((xdrop_inr (callX_inr rfl (bad_path_of h b)))))))
theorem ref_3 {x : PyData} {v : Nat} (hv : v ≤ P.length) (h : plain x = true) (b : vg 0 P.length x = false) : f_w_door 3 (iN P) x (v : Int) = some (refD "version") :=
  door_ref ((x_ifSF rfl).trans ((x_ifSF rfl).trans ((x_ifSF rfl).trans ((x_ifST rfl).trans ((xdrop_inr (callX_inr rfl (bad_depth_of h b))))))))
theorem ref_4 {x : PyData} {v : Nat} (hv : v ≤ P.length) (h : plain x = true) (b : vg 0 P.length x = false) : f_w_door 4 (iN P) x (v : Int) = some (refD "version") :=
  door_ref ((x_ifSF rfl).trans ((x_ifSF rfl).trans ((x_ifSF rfl).trans ((x_ifSF rfl).trans ((x_ifST rfl).trans ((xdrop_inr (callX_inr rfl (bad_children_of h b)))))))))
theorem ref_5 {x : PyData} {v : Nat} (hv : v ≤ P.length) (h : plain x = true) (b : vg 0 P.length x = false) : f_w_door 5 (iN P) x (v : Int) = some (refD "version") :=
  door_ref ((x_ifSF rfl).trans ((x_ifSF rfl).trans ((x_ifSF rfl).trans ((x_ifSF rfl).trans ((x_ifSF rfl).trans ((x_ifST rfl).trans ((xdrop_inr (callX_inr rfl (bad_branch_of h b))))))))))
theorem ref_6 {x : PyData} {v : Nat} (hv : v ≤ P.length) (h : plain x = true) (b : vg 0 P.length x = false) : f_w_door 6 (iN P) x (v : Int) = some (refD "one") :=
  door_ref ((x_ifSF rfl).trans ((x_ifSF rfl).trans ((x_ifSF rfl).trans ((x_ifSF rfl).trans ((x_ifSF rfl).trans ((x_ifSF rfl).trans ((x_ifST rfl).trans ((xdrop_inr (callX_inr rfl (bad1_is_elder h b)))))))))))
theorem ref_7 {x : PyData} {v : Nat} (hv : v ≤ P.length) (h : plain x = true) (b : vg 0 P.length x = false) : f_w_door 7 (iN P) x (v : Int) = some (refD "other") :=
  door_ref ((x_ifSF rfl).trans ((x_ifSF rfl).trans ((x_ifSF rfl).trans ((x_ifSF rfl).trans ((x_ifSF rfl).trans ((x_ifSF rfl).trans ((x_ifSF rfl).trans ((x_ifST rfl).trans ((xdrop_inr (callX_inr rfl (bad2_is_elder hv h b))))))))))))
theorem ref_8 {x : PyData} {v : Nat} (hv : v ≤ P.length) (h : plain x = true) (b : vg 0 P.length x = false) : f_w_door 8 (iN P) x (v : Int) = some (refD "one") :=
  door_ref ((x_ifSF rfl).trans ((x_ifSF rfl).trans ((x_ifSF rfl).trans ((x_ifSF rfl).trans ((x_ifSF rfl).trans ((x_ifSF rfl).trans ((x_ifSF rfl).trans ((x_ifSF rfl).trans ((x_ifST rfl).trans ((xdrop_inr (callX_inr rfl (bad1_meet_of h b)))))))))))))
theorem ref_9 {x : PyData} {v : Nat} (hv : v ≤ P.length) (h : plain x = true) (b : vg 0 P.length x = false) : f_w_door 9 (iN P) x (v : Int) = some (refD "other") :=
  door_ref ((x_ifSF rfl).trans ((x_ifSF rfl).trans ((x_ifSF rfl).trans ((x_ifSF rfl).trans ((x_ifSF rfl).trans ((x_ifSF rfl).trans ((x_ifSF rfl).trans ((x_ifSF rfl).trans ((x_ifSF rfl).trans ((x_ifST rfl).trans ((xdrop_inr (callX_inr rfl (bad2_meet_of hv h b))))))))))))))
theorem ref_10 {x : PyData} {v : Nat} (hv : v ≤ P.length) (h : plain x = true) (b : vg 0 P.length x = false) : f_w_door 10 (iN P) x (v : Int) = some (refD "one") :=
  door_ref ((x_ifSF rfl).trans ((x_ifSF rfl).trans ((x_ifSF rfl).trans ((x_ifSF rfl).trans ((x_ifSF rfl).trans ((x_ifSF rfl).trans ((x_ifSF rfl).trans ((x_ifSF rfl).trans ((x_ifSF rfl).trans ((x_ifSF rfl).trans ((x_ifST rfl).trans ((xdrop_inr (callX_inr rfl (bad1_is_elder h b)))))))))))))))
theorem ref_11 {x : PyData} {v : Nat} (hv : v ≤ P.length) (h : plain x = true) (b : vg 0 P.length x = false) : f_w_door 11 (iN P) x (v : Int) = some (refD "one") :=
  door_ref ((x_ifSF rfl).trans ((x_ifSF rfl).trans ((x_ifSF rfl).trans ((x_ifSF rfl).trans ((x_ifSF rfl).trans ((x_ifSF rfl).trans ((x_ifSF rfl).trans ((x_ifSF rfl).trans ((x_ifSF rfl).trans ((x_ifSF rfl).trans ((x_ifSF rfl).trans ((xdrop_inr (callX_inr rfl (bad1_meet_of h b)))))))))))))))
include hp few
theorem let_0 {v : Nat} (h1 : 1 ≤ v) (hv : v ≤ P.length) : f_w_door 0 (iN P) (.int (v : Int)) (v : Int) = some (.tuple [.str "let"]) := by
  have f3 := few3 hp few
  exact door_let ((x_ifST rfl).trans ((xdrop_inl (callX_inl rfl (orRx_of (k_parent_of (q_parent hp f3 h1 hv)))))))
theorem let_1 {v : Nat} (hv : v ≤ P.length) : f_w_door 1 (iN P) (.int (v : Int)) (v : Int) = some (.tuple [.str "let"]) := by
  have f3 := few3 hp few
  exact door_let ((x_ifSF rfl).trans ((x_ifST rfl).trans ((xdrop_inl (callX_inl rfl (orRx_of (k_elders_of (q_elders hp f3 hv))))))))
theorem let_2 {v : Nat} (hv : v ≤ P.length) : f_w_door 2 (iN P) (.int (v : Int)) (v : Int) = some (.tuple [.str "let"]) := by
  have f3 := few3 hp few
  exact door_let ((x_ifSF rfl).trans ((x_ifSF rfl).trans ((x_ifST rfl).trans ((xdrop_inl (callX_inl rfl (orRx_of (k_path_of (q_path hp f3 hv)))))))))
theorem let_3 {v : Nat} (hv : v ≤ P.length) : f_w_door 3 (iN P) (.int (v : Int)) (v : Int) = some (.tuple [.str "let"]) := by
  have f3 := few3 hp few
  exact door_let ((x_ifSF rfl).trans ((x_ifSF rfl).trans ((x_ifSF rfl).trans ((x_ifST rfl).trans ((xdrop_inl (callX_inl rfl (orRx_of (k_depth_of (q_depth hp f3 hv))))))))))
theorem let_4 {v : Nat} (hv : v ≤ P.length) : f_w_door 4 (iN P) (.int (v : Int)) (v : Int) = some (.tuple [.str "let"]) := by
  have f3 := few3 hp few
  exact door_let ((x_ifSF rfl).trans ((x_ifSF rfl).trans ((x_ifSF rfl).trans ((x_ifSF rfl).trans ((x_ifST rfl).trans ((xdrop_inl (callX_inl rfl (orRx_of (k_children_of (q_children hp f3 hv)))))))))))
theorem let_5 {v : Nat} (hv : v ≤ P.length) : f_w_door 5 (iN P) (.int (v : Int)) (v : Int) = some (.tuple [.str "let"]) := by
  have f3 := few3 hp few
  exact door_let ((x_ifSF rfl).trans ((x_ifSF rfl).trans ((x_ifSF rfl).trans ((x_ifSF rfl).trans ((x_ifSF rfl).trans ((x_ifST rfl).trans ((xdrop_inl (callX_inl rfl (orRx_of (k_branch_of (q_branch hp f3 hv))))))))))))
theorem let_6 {v : Nat} (hv : v ≤ P.length) : f_w_door 6 (iN P) (.int (v : Int)) (v : Int) = some (.tuple [.str "let"]) := by
  have f3 := few3 hp few
  exact door_let ((x_ifSF rfl).trans ((x_ifSF rfl).trans ((x_ifSF rfl).trans ((x_ifSF rfl).trans ((x_ifSF rfl).trans ((x_ifSF rfl).trans ((x_ifST rfl).trans ((xdrop_inl (callX_inl rfl (orRx_of (k_is_elder (q_is_elder hp f3 hv hv)))))))))))))
theorem let_7 {v : Nat} (hv : v ≤ P.length) : f_w_door 7 (iN P) (.int (v : Int)) (v : Int) = some (.tuple [.str "let"]) := by
  have f3 := few3 hp few
  exact door_let ((x_ifSF rfl).trans ((x_ifSF rfl).trans ((x_ifSF rfl).trans ((x_ifSF rfl).trans ((x_ifSF rfl).trans ((x_ifSF rfl).trans ((x_ifSF rfl).trans ((x_ifST rfl).trans ((xdrop_inl (callX_inl rfl (orRx_of (k_is_elder (q_is_elder hp f3 hv hv))))))))))))))
theorem let_8 {v : Nat} (hv : v ≤ P.length) : f_w_door 8 (iN P) (.int (v : Int)) (v : Int) = some (.tuple [.str "let"]) := by
  have f3 := few3 hp few
  obtain ⟨m, m1, _⟩ := q_meet hp f3 hv hv
  exact door_let ((x_ifSF rfl).trans ((x_ifSF rfl).trans ((x_ifSF rfl).trans ((x_ifSF rfl).trans ((x_ifSF rfl).trans ((x_ifSF rfl).trans ((x_ifSF rfl).trans ((x_ifSF rfl).trans ((x_ifST rfl).trans ((xdrop_inl (callX_inl rfl (orRx_of (k_meet_of m1))))))))))))))
theorem let_9 {v : Nat} (hv : v ≤ P.length) : f_w_door 9 (iN P) (.int (v : Int)) (v : Int) = some (.tuple [.str "let"]) := by
  have f3 := few3 hp few
  obtain ⟨m, m1, _⟩ := q_meet hp f3 hv hv
  exact door_let ((x_ifSF rfl).trans ((x_ifSF rfl).trans ((x_ifSF rfl).trans ((x_ifSF rfl).trans ((x_ifSF rfl).trans ((x_ifSF rfl).trans ((x_ifSF rfl).trans ((x_ifSF rfl).trans ((x_ifSF rfl).trans ((x_ifST rfl).trans ((xdrop_inl (callX_inl rfl (orRx_of (k_meet_of m1)))))))))))))))
theorem let_10 {v : Nat} (hv : v ≤ P.length) : f_w_door 10 (iN P) (.int (v : Int)) (v : Int) = some (.tuple [.str "let"]) := by
  have f3 := few3 hp few
  exact door_let ((x_ifSF rfl).trans ((x_ifSF rfl).trans ((x_ifSF rfl).trans ((x_ifSF rfl).trans ((x_ifSF rfl).trans ((x_ifSF rfl).trans ((x_ifSF rfl).trans ((x_ifSF rfl).trans ((x_ifSF rfl).trans ((x_ifSF rfl).trans ((x_ifST rfl).trans ((xdrop_inl (callX_inl rfl (orRx_of (k_is_elder (q_is_elder hp f3 hv hv)))))))))))))))))
theorem let_11 {v : Nat} (hv : v ≤ P.length) : f_w_door 11 (iN P) (.int (v : Int)) (v : Int) = some (.tuple [.str "let"]) := by
  have f3 := few3 hp few
  obtain ⟨m, m1, _⟩ := q_meet hp f3 hv hv
  exact door_let ((x_ifSF rfl).trans ((x_ifSF rfl).trans ((x_ifSF rfl).trans ((x_ifSF rfl).trans ((x_ifSF rfl).trans ((x_ifSF rfl).trans ((x_ifSF rfl).trans ((x_ifSF rfl).trans ((x_ifSF rfl).trans ((x_ifSF rfl).trans ((x_ifSF rfl).trans ((xdrop_inl (callX_inl rfl (orRx_of (k_meet_of m1))))))))))))))))
theorem ref_row {x : PyData} {v i : Nat} (hv : v ≤ P.length) (h : plain x = true) (b0 : vg 0 P.length x = false) (b1 : vg 1 P.length x = false) (hi : i < 12) : f_w_refusals_L1 (iN P) x (v : Int) [("version" : Str), ("version" : Str), ("version" : Str), ("version" : Str), ("version" : Str), ("version" : Str), ("one" : Str), ("other" : Str), ("one" : Str), ("other" : Str), ("one" : Str), ("one" : Str)] (i : Int) = some (.nx ()) := by
  match i, hi with
  | 0, _ => exact bs (ref_0 hv h b1) (bs rfl (bs (same_ref (by kernel_rfl)) (iF rfl (bs (a := false) rfl (iF rfl rfl)))))
  | 1, _ => exact bs (ref_1 hv h b0) (bs rfl (bs (same_ref (by kernel_rfl)) (iF rfl (bs (a := false) (andTT' rfl (bs (let_1 hp few hv) (bs (same_let) rfl))) (iF rfl rfl)))))
  | 2, _ => exact bs (ref_2 hv h b0) (bs rfl (bs (same_ref (by kernel_rfl)) (iF rfl (bs (a := false) (andTT' rfl (bs (let_2 hp few hv) (bs (same_let) rfl))) (iF rfl rfl)))))
  | 3, _ => exact bs (ref_3 hv h b0) (bs rfl (bs (same_ref (by kernel_rfl)) (iF rfl (bs (a := false) (andTT' rfl (bs (let_3 hp few hv) (bs (same_let) rfl))) (iF rfl rfl)))))
  | 4, _ => exact bs (ref_4 hv h b0) (bs rfl (bs (same_ref (by kernel_rfl)) (iF rfl (bs (a := false) (andTT' rfl (bs (let_4 hp few hv) (bs (same_let) rfl))) (iF rfl rfl)))))
  | 5, _ => exact bs (ref_5 hv h b0) (bs rfl (bs (same_ref (by kernel_rfl)) (iF rfl (bs (a := false) (andTT' rfl (bs (let_5 hp few hv) (bs (same_let) rfl))) (iF rfl rfl)))))
  | 6, _ => exact bs (ref_6 hv h b0) (bs rfl (bs (same_ref (by kernel_rfl)) (iF rfl (bs (a := false) (andTT' rfl (bs (let_6 hp few hv) (bs (same_let) rfl))) (iF rfl rfl)))))
  | 7, _ => exact bs (ref_7 hv h b0) (bs rfl (bs (same_ref (by kernel_rfl)) (iF rfl (bs (a := false) (andTT' rfl (bs (let_7 hp few hv) (bs (same_let) rfl))) (iF rfl rfl)))))
  | 8, _ => exact bs (ref_8 hv h b0) (bs rfl (bs (same_ref (by kernel_rfl)) (iF rfl (bs (a := false) (andTT' rfl (bs (let_8 hp few hv) (bs (same_let) rfl))) (iF rfl rfl)))))
  | 9, _ => exact bs (ref_9 hv h b0) (bs rfl (bs (same_ref (by kernel_rfl)) (iF rfl (bs (a := false) (andTT' rfl (bs (let_9 hp few hv) (bs (same_let) rfl))) (iF rfl rfl)))))
  | 10, _ => exact bs (ref_10 hv h b0) (bs rfl (bs (same_ref (by kernel_rfl)) (iF rfl (bs (a := false) (andTT' rfl (bs (let_10 hp few hv) (bs (same_let) rfl))) (iF rfl rfl)))))
  | 11, _ => exact bs (ref_11 hv h b0) (bs rfl (bs (same_ref (by kernel_rfl)) (iF rfl (bs (a := false) (andTT' rfl (bs (let_11 hp few hv) (bs (same_let) rfl))) (iF rfl rfl)))))
  | i + 12, q => omega
theorem v_refusals {x : PyData} {v : Nat} (hv : v ≤ P.length) (h : plain x = true) (b0 : vg 0 P.length x = false) (b1 : vg 1 P.length x = false) : f_w_refusals (iN P) x (v : Int) = some true := by
  unfold f_w_refusals
  refine bs rfl (bs rfl (bs (rng1O_n (n := 12) (by omega)) (thenR (fun i hi => ref_row hp few hv h b0 b1 hi) (bs (ref_0 (x := .int 0) hv rfl rfl) (bs (same_ref (by kernel_rfl)) (iF rfl ?_))))))
  by_cases z : 1 ≤ v
  · refine bs (a := true) ?_ rfl
    rw [decide_eq_false (by omega)]
    exact orF1 (bs (let_0 hp few z hv) (bs (same_let) rfl))
  · refine bs (a := true) ?_ rfl
    rw [decide_eq_true (by omega)]
    rfl
end
end K02
namespace K02
open PySem PySem.Spec PyProof.Rows L2 DL
def OkD (d : PyData) : Prop := plain d = true ∧ ∀ ds, d = .tuple ds → ds.all plain = true ∧ ds.length ≤ 1000000
theorem okd_tup {l : List PyData} (h : l.all plain = true) (k : l.length ≤ 1000000) : OkD ((tp idD) l) := by
  have e : (tp idD) l = .tuple l := congrArg PyData.tuple (List.map_id' l)
  rw [e]
  exact ⟨rfl, fun ds q => by cases q; exact ⟨h, k⟩⟩
theorem okd_row {l : List Int} (k : l.length ≤ 1000000) : OkD (tp PyData.int l) := ⟨rfl, fun ds q => by
  cases q
  refine ⟨?_, by rw [List.length_map]; exact k⟩
  rw [List.all_map, List.all_eq_true]
  exact fun _ _ => rfl⟩
theorem okd_flat {d : PyData} (h : plain d = true) (n : ∀ ds, d ≠ .tuple ds) : OkD d := ⟨h, fun ds q => (n ds q).elim⟩
theorem at_lit {l : List PyData} {i : Nat} (h : i < l.length) (hp : l.all plain = true) : ∃ d, atI l (i : Int) = some d ∧ plain d = true :=
  ⟨l[i], by rw [atI_nn]; exact List.getElem?_eq_getElem h, List.all_eq_true.mp hp _ (List.getElem_mem h)⟩
theorem cut_sub {l : List PyData} {a b : Option Int} : (∀ x ∈ DL.cutD l a b, x ∈ l) ∧ (DL.cutD l a b).length ≤ l.length := by
  unfold DL.cutD
  refine ⟨fun x hx => List.mem_of_mem_drop (List.mem_of_mem_take hx), ?_⟩
  rw [List.length_take, List.length_drop]
  omega
theorem thing_step {b : List Int} {k : Nat} {s : List PyData} (hb : Dr b) (hl : b.length = 9) (hk : k < 2) (hs : s.all plain = true) (sl : s.length ≤ 200 + k) : ∃ s', f_w_thing_L1 b (k : Int) s = some s' ∧ s'.all plain = true ∧ s'.length ≤ 200 + (k + 1) := by
  obtain ⟨p, pa, _⟩ := dr_at hb hl (show 4 + k < 9 by omega)
  obtain ⟨q, q1, _⟩ := dr_at hb hl (show 6 + k < 9 by omega)
  have pa : atI b ((4 : Int) + (k : Int)) = some (p : Int) := by rw [← pa]; rfl
  have q1 : atI b ((6 : Int) + (k : Int)) = some (q : Int) := by rw [← q1]; rfl
  have md : modO (p : Int) ((s.length : Int) + 1) = some ((p % (s.length + 1) : Nat) : Int) := modO_ok (by omega)
  obtain ⟨d, d1, d2⟩ := at_lit (l := [(PyData.int (((p % (s.length + 1) : Nat) : Int) + (1 : Int))), (PyData.int ((p % (s.length + 1) : Nat) : Int)), (PyData.int (-1 : Int)), (PyData.bool true), (PyData.bool false), (nn ()), (PyData.str ("0" : Str)), ((p1 PyData.int) (0 : Int)), (PyData.int 100000000000000000000), ((ls PyData.int) [(0 : Int)]), (PyData.int (((p % (s.length + 1) : Nat) : Int) + (2 : Int))), (PyData.int (0 : Int)), (PyData.int (s.length : Int)), (PyData.int (-((p % (s.length + 1) : Nat) : Int)))]) (i := q % 14) (by show q % 14 < 14; omega) rfl
  have m14 : (q : Int) % 14 = ((q % 14 : Nat) : Int) := by omega
  obtain ⟨c1, c2⟩ := cut_sub (l := s) (a := none) (b := some ((p % (s.length + 1) : Nat) : Int))
  obtain ⟨c3, c4⟩ := cut_sub (l := s) (a := some (((p % (s.length + 1) : Nat) : Int) + 1)) (b := none)
  unfold f_w_thing_L1
  have ht : (DL.cutD s none (some ((p % (s.length + 1) : Nat) : Int))).length = p % (s.length + 1) := by
    have lt : p % (s.length + 1) < s.length + 1 := Nat.mod_lt _ (by omega)
    rw [cut_to (by omega), List.length_take]
    omega
  have hd : (DL.cutD s (some (((p % (s.length + 1) : Nat) : Int) + 1)) none).length ≤ s.length - p % (s.length + 1) := by
    by_cases z : p % (s.length + 1) + 1 ≤ s.length
    · rw [show ((p % (s.length + 1) : Nat) : Int) + 1 = ((p % (s.length + 1) + 1 : Nat) : Int) by omega, cut_from (by omega), List.length_drop]
      omega
    · have lt : p % (s.length + 1) < s.length + 1 := Nat.mod_lt _ (by omega)
      unfold DL.cutD
      rw [show ((p % (s.length + 1) : Nat) : Int) + 1 = ((p % (s.length + 1) + 1 : Nat) : Int) by omega, HT.sIx_nat, HT.sIx_none, List.length_take]
      omega
  refine bsX pa (bsX md (bsX (a := 100000000000000000000) rfl (bsX q1 (bsX (a := d) (by rw [m14]; exact d1) (bsX (catO_ok (by show _ + 1 ≤ _; omega)) (bsX (catO_ok (by rw [List.length_append]; show _ + 1 + _ ≤ _; omega)) ⟨_, rfl, ?_, ?_⟩))))))
  · rw [List.all_eq_true] at hs ⊢
    intro x hx
    rcases List.mem_append.mp hx with z | z
    · rcases List.mem_append.mp z with z | z
      · exact hs x (c1 x z)
      · rw [List.mem_singleton.mp z]; exact d2
    · exact hs x (c3 x z)
  · rw [List.length_append, List.length_append]
    show _ + 1 + _ ≤ _
    omega
theorem thing_last {b : List Int} {P : List Nat} {menu : Int} {s : List PyData} (hb : Dr b) (hl : b.length = 9) (hP : P.length ≤ 1000) (hs : s.all plain = true) (sl : s.length ≤ 200) : ∃ d, f_w_thing_J1 b (iN P) menu s = some d ∧ OkD d := by
  unfold f_w_thing_J1
  by_cases z1 : menu = 1
  · exact iTX (decide_eq_true z1) ⟨_, rfl, okd_tup hs (by omega)⟩
  refine iFX (decide_eq_false z1) ?_
  by_cases z2 : menu = 2
  · exact iTX (decide_eq_true z2) ⟨_, rfl, okd_flat rfl fun ds q => by cases q⟩
  refine iFX (decide_eq_false z2) ?_
  by_cases z3 : menu = 3
  · refine iTX (decide_eq_true z3) ?_
    obtain ⟨t, t1, _⟩ := dr_at hb hl (show 1 < 9 by omega)
    refine bsX t1 ?_
    have m8 : (t : Int) % 8 = ((t % 8 : Nat) : Int) := by omega
    rw [m8]
    have lt : t % 8 < 8 := Nat.mod_lt _ (by omega)
    generalize t % 8 = j at lt
    match j, lt with
    | 0, _ => exact bsX rfl ⟨_, rfl, okd_flat rfl fun ds q => by cases q⟩
    | 1, _ => exact bsX rfl ⟨_, rfl, okd_flat rfl fun ds q => by cases q⟩
    | 2, _ => exact bsX rfl ⟨_, rfl, okd_flat rfl fun ds q => by cases q⟩
    | 3, _ => exact bsX rfl ⟨_, rfl, okd_flat rfl fun ds q => by cases q⟩
    | 4, _ => exact bsX rfl ⟨_, rfl, okd_flat rfl fun ds q => by cases q⟩
    | 5, _ => exact bsX rfl ⟨_, rfl, okd_flat rfl fun ds q => by cases q⟩
    | 6, _ => exact bsX rfl ⟨_, rfl, okd_flat rfl fun ds q => by cases q⟩
    | 7, _ => exact bsX rfl ⟨_, rfl, okd_flat rfl fun ds q => by cases q⟩
    | j + 8, q => omega
  refine iFX (decide_eq_false z3) ?_
  by_cases z4 : menu = 4
  · exact iTX (decide_eq_true z4) ⟨_, rfl, okd_row (by rw [len_iN]; omega)⟩
  refine iFX (decide_eq_false z4) ?_
  obtain ⟨c, c1, _⟩ := dr_at hb hl (show 3 < 9 by omega)
  refine bsX c1 (bsX (a := (List.range (1 + c % 2)).map fun (k : Nat) => (k : Int)) (by rw [show (1 : Int) + (c : Int) % 2 = ((1 + c % 2 : Nat) : Int) by omega]; exact rng1O_n (by omega)) ?_)
  obtain ⟨r, r1, r2, r3⟩ := forS_J (n := 1 + c % 2) (f := fun (k : Nat) => (k : Int)) (fun k (s : List PyData) => s.all plain = true ∧ s.length ≤ 200 + k) (body := fun x_1 parts_ => f_w_thing_L1 b x_1 parts_) (s := s) ⟨hs, sl⟩ fun k hk s ⟨h1, h2⟩ => thing_step hb hl (by omega) h1 h2
  exact bsX r1 ⟨_, rfl, okd_tup r2 (by omega)⟩
theorem v_thing {b : List Int} {P : List Nat} (hb : Dr b) (hl : b.length = 9) (hP : P.length ≤ 100) : ∃ d, f_w_thing b (iN P) = some d ∧ OkD d := by
  obtain ⟨m, m1, _⟩ := dr_at hb hl (show 0 < 9 by omega)
  have intsP : ∀ l : List Int, (l.map PyData.int).all plain = true := fun l => by
    rw [List.all_map, List.all_eq_true]
    exact fun _ _ => rfl
  unfold f_w_thing
  refine bsX m1 (bsX rfl (bsX rfl ?_))
  by_cases z : (m : Int) % 12 < 2
  · obtain ⟨c, c1, _⟩ := dr_at hb hl (show 2 < 9 by omega)
    obtain ⟨e, e1, _⟩ := dr_at hb hl (show 1 < 9 by omega)
    refine iTX (decide_eq_true z) (bsX c1 (bsX (a := (List.range (48 + c % 13)).map fun (k : Nat) => (k : Int)) (by rw [show (48 : Int) + (c : Int) % 13 = ((48 + c % 13 : Nat) : Int) by omega]; exact rng1O_n (by omega)) (bsX (lcC_map (g' := fun x : Int => max 0 (x - (e : Int) % 2)) (by rw [List.length_map, List.length_range]; omega) fun _ _ => bs e1 rfl) (bsX rfl (thing_last hb hl (by omega) (intsP _) ?_)))))
    rw [List.length_map, List.length_map, List.length_map, List.length_range]
    omega
  · refine iFX (decide_eq_false z) (thing_last hb hl (by omega) (intsP _) ?_)
    rw [List.length_map, len_iN]
    omega
end K02
namespace K02
open PySem PySem.Spec PyProof.Rows L2 DL
theorem odd_of {n v i : Nat} (hi : i < 12) : ∃ d, atI [(PyData.int ((n : Int) + (1 : Int))), (PyData.int (-1 : Int)), (PyData.bool true), (PyData.bool false), (nn ()), (PyData.str ("0" : Str)), ((p1 PyData.int) (v : Int)), ((ls PyData.int) [(v : Int)]), (PyData.int ((n : Int) + (2 : Int))), (PyData.int 100000000000000000000), (PyData.int ((-(n : Int)) - (1 : Int))), ((tp PyData.int) [])] (i : Int) = some d ∧ plain d = true ∧ (n ≤ 1000 → vg 0 n d = false ∧ vg 1 n d = false) := by
  have far : ∀ x l : Int, n ≤ 1000 → (n : Int) < x → vg l n (.int x) = false := fun x l h q => by
    show (decide (0 ≤ x) && (decide (l ≤ x) && decide (x ≤ (n : Int)))) = false
    rw [decide_eq_false (by omega : ¬ x ≤ (n : Int)), Bool.and_false, Bool.and_false]
  have low : ∀ x l : Int, x < 0 → vg l n (.int x) = false := fun x l q => by
    show (decide (0 ≤ x) && (decide (l ≤ x) && decide (x ≤ (n : Int)))) = false
    rw [decide_eq_false (by omega : ¬ 0 ≤ x), Bool.false_and]
  match i, hi with
  | 0, _ => exact ⟨_, rfl, rfl, fun h => ⟨far _ _ h (by omega), far _ _ h (by omega)⟩⟩
  | 1, _ => exact ⟨_, rfl, rfl, fun h => ⟨low _ _ (by omega), low _ _ (by omega)⟩⟩
  | 2, _ => exact ⟨_, rfl, rfl, fun h => ⟨rfl, rfl⟩⟩
  | 3, _ => exact ⟨_, rfl, rfl, fun h => ⟨rfl, rfl⟩⟩
  | 4, _ => exact ⟨_, rfl, rfl, fun h => ⟨rfl, rfl⟩⟩
  | 5, _ => exact ⟨_, rfl, rfl, fun h => ⟨rfl, rfl⟩⟩
  | 6, _ => exact ⟨_, rfl, rfl, fun h => ⟨rfl, rfl⟩⟩
  | 7, _ => exact ⟨_, rfl, rfl, fun h => ⟨rfl, rfl⟩⟩
  | 8, _ => exact ⟨_, rfl, rfl, fun h => ⟨far _ _ h (by omega), far _ _ h (by omega)⟩⟩
  | 9, _ => exact ⟨_, rfl, rfl, fun h => ⟨far _ _ h (by omega), far _ _ h (by omega)⟩⟩
  | 10, _ => exact ⟨_, rfl, rfl, fun h => ⟨low _ _ (by omega), low _ _ (by omega)⟩⟩
  | 11, _ => exact ⟨_, rfl, rfl, fun h => ⟨rfl, rfl⟩⟩
  | i + 12, q => omega
def InR (n : Nat) (x : Int) : Prop := ∃ v : Nat, x = (v : Int) ∧ v ≤ n
theorem inr_mod {n x : Nat} : InR n ((x % (n + 1) : Nat) : Int) := ⟨_, rfl, by have := Nat.mod_lt x (show 0 < n + 1 by omega); omega⟩
section
variable {P : List Nat} (hp : Par (gv P) P.length) (few : P.length ≤ 40)
include hp few
theorem v_J2 {row : List Int} {asks : List Int} {pairs : List (Int × Int)} (hr : Dr row) (hl : row.length = 128) (ha : ∀ x ∈ asks, InR P.length x) (hb : ∀ x ∈ pairs, InR P.length x.1 ∧ InR P.length x.2) : f_law_J2 row (P.length : Int) (iN P) (upsL P) asks pairs = some true := by
  have f1 : P.length ≤ 100 := by omega
  unfold f_law_J2
  refine thenA (fun x hx => ?_) (thenA (fun x hx => ?_) ?_)
  · obtain ⟨v, rfl, hv⟩ := ha x hx
    exact bs (v_version hp f1 hv) (iF rfl rfl)
  · obtain ⟨x1, x2⟩ := x
    obtain ⟨⟨v, e1, hv⟩, ⟨w, e2, hw⟩⟩ := hb _ hx
    have e1 : x1 = (v : Int) := e1
    have e2 : x2 = (w : Int) := e2
    subst e1 e2
    exact bs (v_pair hp f1 hv hw) (iF rfl rfl)
  · obtain ⟨a, a1, _⟩ := dr_at hr hl (show 108 < 128 by omega)
    obtain ⟨b, b1, _⟩ := dr_at hr hl (show 109 < 128 by omega)
    obtain ⟨c, c1, _⟩ := dr_at hr hl (show 110 < 128 by omega)
    obtain ⟨v, hv', hv⟩ := inr_mod (n := P.length) (x := a)
    obtain ⟨w, hw', hw⟩ := inr_mod (n := P.length) (x := b)
    have lt : c % 12 < 12 := Nat.mod_lt _ (by omega)
    obtain ⟨d, d1, d2, d3⟩ := odd_of (n := P.length) (v := v) lt
    obtain ⟨d4, d5⟩ := d3 (by omega)
    refine bs a1 (bs (a := (v : Int)) ((modO_ok (by omega)).trans (congrArg some hv')) (bs b1 (bs (a := (w : Int)) ((modO_ok (by omega)).trans (congrArg some hw')) (bs (v_version hp f1 hw) (bs (a := false) (orF1 (bs (v_pair hp f1 hv hw) rfl)) (iF rfl (bs (a := 100000000000000000000) rfl (bs c1 (bs (a := d) ?_ (bs (v_refusals hp f1 hv d2 d4 d5) (bs (a := true) (andTT rfl (bs (v_whole hp f1) rfl)) rfl)))))))))))
    rw [show (c : Int) % 12 = ((c % 12 : Nat) : Int) by omega]
    exact d1
end
theorem v_J1 {row : List Int} {n : Nat} (hr : Dr row) (hl : row.length = 128) (hn : n ≤ 40) : f_law_J1 row (n : Int) = some true := by
  obtain ⟨s, s1, _⟩ := dr_at hr hl (show 42 < 128 by omega)
  obtain ⟨t1, t2⟩ := dr_cut (a := 2) (b := 42) hr (by omega) (by omega)
  obtain ⟨u1, u2⟩ := dr_cut (a := 43) (b := 52) hr (by omega) (by omega)
  obtain ⟨P, p1, p2, p3⟩ := v_tree (n := n) (sh := s % 8) t1 t2 hn
  subst p2
  have f1 : P.length ≤ 100 := by omega
  obtain ⟨d, d1, d2, d3⟩ := v_thing u1 u2 f1
  have ok := okd_row (l := iN P) (by rw [len_iN]; omega)
  have go : ∀ asks pairs, (∀ x ∈ asks, InR P.length x) → (∀ x ∈ pairs, InR P.length x.1 ∧ InR P.length x.2) → f_law_J2 row (P.length : Int) (iN P) (upsL P) asks pairs = some true := fun asks pairs h1 h2 => v_J2 p3 hn hr hl h1 h2
  have sq : (P.length + 1) * (P.length + 1) ≤ 41 * 41 := Nat.mul_le_mul (by omega) (by omega)
  unfold f_law_J1
  refine bs s1 (bs (a := iN P) ?_ (bs (v_ups p3 f1) (bs (v_judged ok.1 ok.2) (bs (a := false) (orF1 (bs d1 (bs (v_judged d2 d3) rfl))) (iF rfl (bs (v_whole p3 f1) (iF rfl (bs (a := iN (List.range (P.length + 1))) ?_ (bs (a := (((P.length + 1) * (P.length + 1) : Nat) : Int)) ?_ (bs (rng1O_n (by omega)) (bs (lcC_rg (g' := fun k => (((k / (P.length + 1) : Nat) : Int), ((k % (P.length + 1) : Nat) : Int))) (by omega) fun k hk => bs (divO_ok (by omega) (by omega)) (bs (modO_ok (by omega)) rfl)) ?_)))))))))))
  · rw [← p1, show (s : Int) % 8 = ((s % 8 : Nat) : Int) by omega]
    rfl
  · exact rgLO_0 (l := P.length + 1) (by omega)
  · unfold mulO mulC
    rw [if_pos (by rw [decide_eq_true (.inl (by omega)), Bool.true_or])]
    rw [Int.natCast_mul]
    rfl
  by_cases z : (9 : Int) < (P.length : Int)
  · have at_ : ∀ k : Nat, k < 128 → ∃ x : Nat, atI row (k : Int) = some (x : Int) := fun k hk => by
      obtain ⟨x, x1, _⟩ := dr_at hr hl hk
      exact ⟨x, x1⟩
    let g : Nat → Nat := fun k => ((atI row (k : Int)).getD 0).toNat % (P.length + 1)
    have gd1 : ∀ k : Nat, k < 128 → ∀ {a : Int}, a = (k : Int) → ∀ {τ : Type} (f : Int → Option τ), ((atI row a).bind fun t => (modO t ((P.length : Int) + 1)).bind f) = f ((g k : Nat) : Int) := fun k hk a e τ f => by
      subst e
      obtain ⟨x, x1⟩ := at_ k hk
      have ge : g k = x % (P.length + 1) := by
        show ((atI row (k : Int)).getD 0).toNat % (P.length + 1) = _
        rw [x1]
        rfl
      rw [x1, ge]
      exact bs rfl (bs (modO_ok (by omega)) rfl)
    refine iT (decide_eq_true z) (bs (rng1O_n (n := 8) (by omega)) (bs (lcC_rg (g' := fun k => ((g (52 + k) : Nat) : Int)) (by omega) fun k hk => gd1 (52 + k) (by omega) (by omega) _) (bs (rng1O_n (n := 24) (by omega)) (bs (lcC_rg (g' := fun k => (((g (60 + k) : Nat) : Int), ((g (84 + k) : Nat) : Int))) (by omega) fun k hk => (gd1 (60 + k) (by omega) (by omega) _).trans (gd1 (84 + k) (by omega) (by omega) _)) (go _ _ ?_ ?_)))))
    · intro x hx
      obtain ⟨k, _, rfl⟩ := List.mem_map.mp hx
      exact inr_mod
    · intro x hx
      obtain ⟨k, _, rfl⟩ := List.mem_map.mp hx
      exact ⟨inr_mod, inr_mod⟩
  · refine iF (decide_eq_false z) (go _ _ ?_ ?_)
    · intro x hx
      obtain ⟨k, hk, rfl⟩ := mem_iN'.mp hx
      have := List.mem_range.mp hk
      exact ⟨k, rfl, by omega⟩
    · intro x hx
      obtain ⟨k, hk, rfl⟩ := List.mem_map.mp hx
      have hk := List.mem_range.mp hk
      have : k / (P.length + 1) < P.length + 1 := Nat.div_lt_of_lt_mul hk
      exact ⟨⟨k / (P.length + 1), rfl, by omega⟩, inr_mod⟩
theorem v_law (ns : List Int) : f_law ns = some true := by
  obtain ⟨d, d1, hl, hd⟩ := e_draws (ns := ns)
  obtain ⟨a, a1, _⟩ := dr_at hd hl (show 0 < 128 by omega)
  obtain ⟨b, b1, _⟩ := dr_at hd hl (show 1 < 128 by omega)
  unfold f_law
  refine bs d1 (bs a1 (bs rfl (bs b1 ?_)))
  by_cases z : (9 : Int) < (b : Int) % 12
  · refine iT (decide_eq_true z) (bs b1 (bs rfl ?_))
    have := v_J1 (n := 24 + 16 * (b % 12 - 10)) hd hl (by omega)
    rwa [show ((24 + 16 * (b % 12 - 10) : Nat) : Int) = 24 + 16 * ((b : Int) % 12 - 10) by omega] at this
  · refine iF (decide_eq_false z) ?_
    have := v_J1 (n := a % 10) hd hl (by omega)
    rwa [show ((a % 10 : Nat) : Int) = (a : Int) % 10 by omega] at this
theorem law_true (ns : List Int) (h : ns.length ≤ 63) : F_law [.list (ns.map PyData.int)] = some (.im (.bool true)) := k_law (v_law ns)
end K02
namespace K02
open PySem PySem.Spec PyProof.Rows L2 DL
def level : Nat := 11
def spLaw (K : PySem.W.Frag) : Sp := fun vs H Q _ => ∃ (a : Addr) (ns : List Int), vs = [.ref a] ∧ SqL K H a (ns.map V.int) ∧ ns.length ≤ 63 ∧ ∀ H', Q (.bl true) H'
theorem law_imp {P : Program} {w : World} {K : PySem.W.Frag} {mg : Str → Option Value} {base : Heap} {f : Addr} {fd : FuncData} (h : FnOk P w K mg base CX0 11 f fd ["_law_script"] (spD K 1 F_law)) : FnOk P w K mg base CX0 level f fd ["_law_script"] (spLaw K) := by
  refine h.imp fun vs H Q E z => ?_
  obtain ⟨a, ns, rfl, hs, hl, q⟩ := z
  refine ⟨H, [.list (ns.map PyData.int)], _, Same.refl H, .cons (.lst hs (dpAll_ints ns)) .nil, rfl, law_true ns hl, fun v G' H' _ _ _ _ d => ?_⟩
  cases d
  exact q H'
theorem facts {P : Program} {w : World} {K : PySem.W.Frag} {h : Heap} {mg : Str → Option Value} {f : Addr} (X : K.In h) (G : h.Ns mainGlobals mg) (hfa : mg ("law" : Str) = some (.ref f)) (cx : SaysX fa fn ex K) :
    ∃ fd : FuncData, (∀ (s : Shared) (v : Value), BindsTo s fd ⟨[v], []⟩ [("_law_script", v)]) ∧ ∀ base : Heap, K.In base → base.Ns mainGlobals mg → FnOk P w K mg base CX0 level f fd ["_law_script"] (spLaw K) := by
  have c := cx.d
  have cxx := (He.ba cx.x).1
  have cxm := (He.ba cx.x).2
  have XI := exB_xi X G cxx
  have B : Bi mg := ⟨He.free_ok X G (c.fact 33 (f := .free "all") rfl), He.free_ok X G (c.fact 34 (f := .free "bool") rfl), He.free_ok X G (c.fact 35 (f := .free "enumerate") rfl), He.free_ok X G (c.fact 36 (f := .free "int") rfl), He.free_ok X G (c.fact 37 (f := .free "isinstance") rfl), He.free_ok X G (c.fact 38 (f := .free "len") rfl), He.free_ok X G (c.fact 39 (f := .free "list") rfl), He.free_ok X G (c.fact 40 (f := .free "max") rfl), He.free_ok X G (c.fact 41 (f := .free "min") rfl), He.free_ok X G (c.fact 42 (f := .free "range") rfl), He.free_ok X G (c.fact 43 (f := .free "reversed") rfl), He.free_ok X G (c.fact 44 (f := .free "sorted") rfl), He.free_ok X G (c.fact 45 (f := .free "str") rfl), He.free_ok X G (c.fact 46 (f := .free "tuple") rfl)⟩
  obtain ⟨fd_is_integer, F_is_integer_⟩ := c.def_ 0 (d := d_is_integer) rfl
  obtain ⟨fd_many_of, F_many_of_⟩ := c.def_ 4 (d := d_many_of) rfl
  obtain ⟨fd__upward, F__upward_⟩ := c.def_ 6 (d := d__upward) rfl
  obtain ⟨fd_depth_in, F_depth_in_⟩ := c.def_ 12 (d := d_depth_in) rfl
  obtain ⟨fd_leaves_of, F_leaves_of_⟩ := c.def_ 16 (d := d_leaves_of) rfl
  obtain ⟨fd_is_line, F_is_line_⟩ := c.def_ 17 (d := d_is_line) rfl
  obtain ⟨fd__law_mixed, F__law_mixed_⟩ := c.def_ 18 (d := d__law_mixed) rfl
  obtain ⟨fd__law_tree, F__law_tree_⟩ := c.def_ 21 (d := d__law_tree) rfl
  obtain ⟨fd__law_ups, F__law_ups_⟩ := c.def_ 22 (d := d__law_ups) rfl
  obtain ⟨fd__law_thing, F__law_thing_⟩ := c.def_ 23 (d := d__law_thing) rfl
  obtain ⟨fd__law_fault, F__law_fault_⟩ := c.def_ 24 (d := d__law_fault) rfl
  obtain ⟨fd_is_number, F_is_number_⟩ := c.def_ 1 (d := d_is_number) rfl
  obtain ⟨fd__law_draws, F__law_draws_⟩ := c.def_ 19 (d := d__law_draws) rfl
  obtain ⟨fd_is_history, F_is_history_⟩ := c.def_ 2 (d := d_is_history) rfl
  obtain ⟨fd_check_version, F_check_version_⟩ := c.def_ 3 (d := d_check_version) rfl
  obtain ⟨fd_lets_history, F_lets_history_⟩ := c.def_ 13 (d := d_lets_history) rfl
  obtain ⟨fd_parent_of, F_parent_of_⟩ := c.def_ 5 (d := d_parent_of) rfl
  obtain ⟨fd_elders_of, F_elders_of_⟩ := c.def_ 7 (d := d_elders_of) rfl
  obtain ⟨fd_path_of, F_path_of_⟩ := c.def_ 8 (d := d_path_of) rfl
  obtain ⟨fd_is_elder, F_is_elder_⟩ := c.def_ 9 (d := d_is_elder) rfl
  obtain ⟨fd_meet_of, F_meet_of_⟩ := c.def_ 10 (d := d_meet_of) rfl
  obtain ⟨fd_depth_of, F_depth_of_⟩ := c.def_ 11 (d := d_depth_of) rfl
  obtain ⟨fd_children_of, F_children_of_⟩ := c.def_ 14 (d := d_children_of) rfl
  obtain ⟨fd_branch_of, F_branch_of_⟩ := c.def_ 15 (d := d_branch_of) rfl
  obtain ⟨fd__law_door, F__law_door_⟩ := c.def_ 26 (d := d__law_door) rfl
  obtain ⟨fd__law_same, F__law_same_⟩ := c.def_ 20 (d := d__law_same) rfl
  obtain ⟨fd__law_judged, F__law_judged_⟩ := c.def_ 25 (d := d__law_judged) rfl
  obtain ⟨fd__law_refusals, F__law_refusals_⟩ := c.def_ 27 (d := d__law_refusals) rfl
  obtain ⟨fd__law_version, F__law_version_⟩ := c.def_ 28 (d := d__law_version) rfl
  obtain ⟨fd__law_pair, F__law_pair_⟩ := c.def_ 29 (d := d__law_pair) rfl
  obtain ⟨fd__law_whole, F__law_whole_⟩ := c.def_ 30 (d := d__law_whole) rfl
  obtain ⟨fd_law, F_law_⟩ := c.def_ 31 (d := d_law) rfl
  obtain ⟨fd_i_InvalidPaper, F_i_InvalidPaper⟩ := c.def_ 32 (d := d_i_InvalidPaper) rfl
  obtain ⟨fd_i_NotUsable, F_i_NotUsable⟩ := c.def_ 33 (d := d_i_NotUsable) rfl
  have e := hfa.symm.trans (He.glo_ok X G (c.fact 31 (f := .glo "law") rfl))
  cases e
  have b := FunD.bindsA (ps := ["_law_script"]) F_law_ fun _ _ _ _ _ _ us hl => match us, hl with | [_], _ => rfl
  refine ⟨fd_law, fun s v => b s [v] rfl, fun base _ _ => ?_⟩
  have XT_InvalidPaper : ExT P w K mg base "InvalidPaper" ["word", "at"] := exB_ini X G cxx (x := "InvalidPaper") (by decide +kernel) (fun C hC xc hf => init2 F_i_InvalidPaper sc_i_InvalidPaper rfl xc.ox (hf "word" (by decide +kernel)) (hf "at" (by decide +kernel)) fun cdv A outer s H E => (pss_cons (ps_ost (pe_var (i := 0) rfl (Or.inl rfl) (by decide) (by decide)) (pe_var (i := 1) rfl (Or.inl rfl) (by decide) (by decide))) (pss_cons (ps_ost (pe_var (i := 0) rfl (Or.inl rfl) (by decide) (by decide)) (pe_var (i := 2) rfl (Or.inl rfl) (by decide) (by decide))) pss_nil))) (F_i_InvalidPaper.bindsN fun _ _ _ _ _ _ us hl => match us, hl with | [_, _, _], _ => rfl)
  have XT_NotUsable : ExT P w K mg base "NotUsable" ["word", "at"] := exB_ini X G cxx (x := "NotUsable") (by decide +kernel) (fun C hC xc hf => init2 F_i_NotUsable sc_i_NotUsable rfl xc.ox (hf "word" (by decide +kernel)) (hf "at" (by decide +kernel)) fun cdv A outer s H E => (pss_cons (ps_ost (pe_var (i := 0) rfl (Or.inl rfl) (by decide) (by decide)) (pe_var (i := 1) rfl (Or.inl rfl) (by decide) (by decide))) (pss_cons (ps_ost (pe_var (i := 0) rfl (Or.inl rfl) (by decide) (by decide)) (pe_var (i := 2) rfl (Or.inl rfl) (by decide) (by decide))) pss_nil))) (F_i_NotUsable.bindsN fun _ _ _ _ _ _ us hl => match us, hl with | [_, _, _], _ => rfl)
  have k_is_integer := ok_is_integer (P := P) (w := w) (mg := mg) (base := base) B F_is_integer_
  have c_is_integer := kfN F_is_integer_ k_is_integer (He.glo_ok X G (c.fact 0 (f := .glo "is_integer") rfl)) fun _ _ _ _ _ _ us hl => match us, hl with | [_], _ => rfl
  have k_many_of := ok_many_of (P := P) (w := w) (mg := mg) (base := base) B F_many_of_
  have c_many_of := kfN F_many_of_ k_many_of (He.glo_ok X G (c.fact 4 (f := .glo "many_of") rfl)) fun _ _ _ _ _ _ us hl => match us, hl with | [_], _ => rfl
  have c_many_of_kw0_0 : KfK P w K mg base 1 "many_of" (spD K 1 F_many_of) 0 ["history"] [0] := ⟨_, fd_many_of, _, k_many_of, (He.glo_ok X G (c.fact 4 (f := .glo "many_of") rfl)), F_many_of_.kp, kbn_of F_many_of_ 0 ["history"] [0] fun _ _ _ _ _ _ us ws h1 h2 => match us, ws, h1, h2 with | [], [_], _, _ => rfl⟩
  have k__upward := ok__upward (P := P) (w := w) (mg := mg) (base := base) F__upward_
  have c__upward := kfN F__upward_ k__upward (He.glo_ok X G (c.fact 6 (f := .glo "_upward") rfl)) fun _ _ _ _ _ _ us hl => match us, hl with | [_, _], _ => rfl
  have k_depth_in := ok_depth_in (P := P) (w := w) (mg := mg) (base := base) B F_depth_in_
  have c_depth_in := kfN F_depth_in_ k_depth_in (He.glo_ok X G (c.fact 12 (f := .glo "depth_in") rfl)) fun _ _ _ _ _ _ us hl => match us, hl with | [_], _ => rfl
  have c_depth_in_kw0_0 : KfK P w K mg base 1 "depth_in" (spD K 1 F_depth_in) 0 ["history"] [0] := ⟨_, fd_depth_in, _, k_depth_in, (He.glo_ok X G (c.fact 12 (f := .glo "depth_in") rfl)), F_depth_in_.kp, kbn_of F_depth_in_ 0 ["history"] [0] fun _ _ _ _ _ _ us ws h1 h2 => match us, ws, h1, h2 with | [], [_], _, _ => rfl⟩
  have k_leaves_of := ok_leaves_of (P := P) (w := w) (mg := mg) (base := base) B F_leaves_of_
  have c_leaves_of := kfN F_leaves_of_ k_leaves_of (He.glo_ok X G (c.fact 16 (f := .glo "leaves_of") rfl)) fun _ _ _ _ _ _ us hl => match us, hl with | [_], _ => rfl
  have c_leaves_of_kw0_0 : KfK P w K mg base 1 "leaves_of" (spD K 1 F_leaves_of) 0 ["history"] [0] := ⟨_, fd_leaves_of, _, k_leaves_of, (He.glo_ok X G (c.fact 16 (f := .glo "leaves_of") rfl)), F_leaves_of_.kp, kbn_of F_leaves_of_ 0 ["history"] [0] fun _ _ _ _ _ _ us ws h1 h2 => match us, ws, h1, h2 with | [], [_], _, _ => rfl⟩
  have k_is_line := ok_is_line (P := P) (w := w) (mg := mg) (base := base) B F_is_line_
  have c_is_line := kfN F_is_line_ k_is_line (He.glo_ok X G (c.fact 17 (f := .glo "is_line") rfl)) fun _ _ _ _ _ _ us hl => match us, hl with | [_], _ => rfl
  have c_is_line_kw0_0 : KfK P w K mg base 1 "is_line" (spD K 1 F_is_line) 0 ["history"] [0] := ⟨_, fd_is_line, _, k_is_line, (He.glo_ok X G (c.fact 17 (f := .glo "is_line") rfl)), F_is_line_.kp, kbn_of F_is_line_ 0 ["history"] [0] fun _ _ _ _ _ _ us ws h1 h2 => match us, ws, h1, h2 with | [], [_], _, _ => rfl⟩
  have k__law_mixed := ok__law_mixed (P := P) (w := w) (mg := mg) (base := base) B F__law_mixed_
  have c__law_mixed := kfN F__law_mixed_ k__law_mixed (He.glo_ok X G (c.fact 18 (f := .glo "_law_mixed") rfl)) fun _ _ _ _ _ _ us hl => match us, hl with | [_], _ => rfl
  have k__law_tree := ok__law_tree (P := P) (w := w) (mg := mg) (base := base) B F__law_tree_
  have c__law_tree := kfN F__law_tree_ k__law_tree (He.glo_ok X G (c.fact 21 (f := .glo "_law_tree") rfl)) fun _ _ _ _ _ _ us hl => match us, hl with | [_, _, _], _ => rfl
  have k__law_ups := ok__law_ups (P := P) (w := w) (mg := mg) (base := base) F__law_ups_
  have c__law_ups := kfN F__law_ups_ k__law_ups (He.glo_ok X G (c.fact 22 (f := .glo "_law_ups") rfl)) fun _ _ _ _ _ _ us hl => match us, hl with | [_], _ => rfl
  have k__law_thing := ok__law_thing (P := P) (w := w) (mg := mg) (base := base) B F__law_thing_
  have c__law_thing := kfN F__law_thing_ k__law_thing (He.glo_ok X G (c.fact 23 (f := .glo "_law_thing") rfl)) fun _ _ _ _ _ _ us hl => match us, hl with | [_, _], _ => rfl
  have k__law_fault := ok__law_fault (P := P) (w := w) (mg := mg) (base := base) B F__law_fault_
  have c__law_fault := kfN F__law_fault_ k__law_fault (He.glo_ok X G (c.fact 24 (f := .glo "_law_fault") rfl)) fun _ _ _ _ _ _ us hl => match us, hl with | [_], _ => rfl
  have k_is_number := ok_is_number (P := P) (w := w) (mg := mg) (base := base) F_is_number_ c_is_integer
  have c_is_number := kfN F_is_number_ k_is_number (He.glo_ok X G (c.fact 1 (f := .glo "is_number") rfl)) fun _ _ _ _ _ _ us hl => match us, hl with | [_], _ => rfl
  have k__law_draws := ok__law_draws (P := P) (w := w) (mg := mg) (base := base) B F__law_draws_ c__law_mixed
  have c__law_draws := kfN F__law_draws_ k__law_draws (He.glo_ok X G (c.fact 19 (f := .glo "_law_draws") rfl)) fun _ _ _ _ _ _ us hl => match us, hl with | [_, _], _ => rfl
  have k_is_history := ok_is_history (P := P) (w := w) (mg := mg) (base := base) B F_is_history_ c_is_number
  have c_is_history := kfN F_is_history_ k_is_history (He.glo_ok X G (c.fact 2 (f := .glo "is_history") rfl)) fun _ _ _ _ _ _ us hl => match us, hl with | [_], _ => rfl
  have c_is_history_kw0_0 : KfK P w K mg base 3 "is_history" (spD K 1 F_is_history) 0 ["thing"] [0] := ⟨_, fd_is_history, _, k_is_history, (He.glo_ok X G (c.fact 2 (f := .glo "is_history") rfl)), F_is_history_.kp, kbn_of F_is_history_ 0 ["thing"] [0] fun _ _ _ _ _ _ us ws h1 h2 => match us, ws, h1, h2 with | [], [_], _, _ => rfl⟩
  have ky_check_version := okx_check_version (P := P) (w := w) (mg := mg) (base := base) B XI XT_NotUsable F_check_version_ c_is_number
  have k_check_version := ok_check_version (P := P) (w := w) (mg := mg) (base := base) B F_check_version_ c_is_number
  have kx_check_version := fn_orX k_check_version ky_check_version
  have c_Xcheck_version := kfX F_check_version_ kx_check_version (He.glo_ok X G (c.fact 3 (f := .glo "check_version") rfl)) (F_check_version_.binds1 4 1 (List.cons_ne_nil _ _) rfl fun _ _ _ _ _ _ _ us its h1 h2 => match us, its, h1, h2 with | [_, _, _, _], [_], _, _ => ⟨_, rfl, rfl⟩)
  have c_Xcheck_version_3 := kfX F_check_version_ kx_check_version (He.glo_ok X G (c.fact 3 (f := .glo "check_version") rfl)) (F_check_version_.binds1 3 0 (List.cons_ne_nil _ _) rfl fun _ _ _ _ _ _ _ us its h1 h2 => match us, its, h1, h2 with | [_, _, _], [_], _, _ => ⟨_, rfl, rfl⟩)
  have c_check_version := kfD F_check_version_ k_check_version (He.glo_ok X G (c.fact 3 (f := .glo "check_version") rfl)) (F_check_version_.binds1 4 1 (List.cons_ne_nil _ _) rfl fun _ _ _ _ _ _ _ us its h1 h2 => match us, its, h1, h2 with | [_, _, _, _], [_], _, _ => ⟨_, rfl, rfl⟩)
  have c_check_version_3 := kfD F_check_version_ k_check_version (He.glo_ok X G (c.fact 3 (f := .glo "check_version") rfl)) (F_check_version_.binds1 3 0 (List.cons_ne_nil _ _) rfl fun _ _ _ _ _ _ _ us its h1 h2 => match us, its, h1, h2 with | [_, _, _], [_], _, _ => ⟨_, rfl, rfl⟩)
  have ky_lets_history := okx_lets_history (P := P) (w := w) (mg := mg) (base := base) B XI XT_InvalidPaper F_lets_history_ c_is_number
  have k_lets_history := ok_lets_history (P := P) (w := w) (mg := mg) (base := base) B F_lets_history_ c_is_number
  have kx_lets_history := fn_orX k_lets_history ky_lets_history
  have c_Xlets_history := kfXN F_lets_history_ kx_lets_history (He.glo_ok X G (c.fact 13 (f := .glo "lets_history") rfl)) fun _ _ _ _ _ _ us hl => match us, hl with | [_], _ => rfl
  have c_lets_history_kw0_0 : KfK P w K mg base 3 "lets_history" (spD K 1 F_lets_history) 0 ["thing"] [0] := ⟨_, fd_lets_history, _, k_lets_history, (He.glo_ok X G (c.fact 13 (f := .glo "lets_history") rfl)), F_lets_history_.kp, kbn_of F_lets_history_ 0 ["thing"] [0] fun _ _ _ _ _ _ us ws h1 h2 => match us, ws, h1, h2 with | [], [_], _, _ => rfl⟩
  have ky_parent_of := okx_parent_of (P := P) (w := w) (mg := mg) (base := base) F_parent_of_ c_Xcheck_version
  have k_parent_of := ok_parent_of (P := P) (w := w) (mg := mg) (base := base) F_parent_of_ c_check_version
  have kx_parent_of := fn_orX k_parent_of ky_parent_of
  have c_Xparent_of := kfXN F_parent_of_ kx_parent_of (He.glo_ok X G (c.fact 5 (f := .glo "parent_of") rfl)) fun _ _ _ _ _ _ us hl => match us, hl with | [_, _], _ => rfl
  have c_parent_of := kfN F_parent_of_ k_parent_of (He.glo_ok X G (c.fact 5 (f := .glo "parent_of") rfl)) fun _ _ _ _ _ _ us hl => match us, hl with | [_, _], _ => rfl
  have c_parent_of_kw0_1_0 : KfK P w K mg base 4 "parent_of" (spD K 2 F_parent_of) 0 ["version", "history"] [1, 0] := ⟨_, fd_parent_of, _, k_parent_of, (He.glo_ok X G (c.fact 5 (f := .glo "parent_of") rfl)), F_parent_of_.kp, kbn_of F_parent_of_ 0 ["version", "history"] [1, 0] fun _ _ _ _ _ _ us ws h1 h2 => match us, ws, h1, h2 with | [], [_, _], _, _ => rfl⟩
  have ky_elders_of := okx_elders_of (P := P) (w := w) (mg := mg) (base := base) B F_elders_of_ c_Xcheck_version_3 c__upward
  have k_elders_of := ok_elders_of (P := P) (w := w) (mg := mg) (base := base) B F_elders_of_ c__upward c_check_version_3
  have kx_elders_of := fn_orX k_elders_of ky_elders_of
  have c_Xelders_of := kfXN F_elders_of_ kx_elders_of (He.glo_ok X G (c.fact 7 (f := .glo "elders_of") rfl)) fun _ _ _ _ _ _ us hl => match us, hl with | [_, _], _ => rfl
  have c_elders_of := kfN F_elders_of_ k_elders_of (He.glo_ok X G (c.fact 7 (f := .glo "elders_of") rfl)) fun _ _ _ _ _ _ us hl => match us, hl with | [_, _], _ => rfl
  have c_elders_of_kw0_1_0 : KfK P w K mg base 4 "elders_of" (spD K 2 F_elders_of) 0 ["version", "history"] [1, 0] := ⟨_, fd_elders_of, _, k_elders_of, (He.glo_ok X G (c.fact 7 (f := .glo "elders_of") rfl)), F_elders_of_.kp, kbn_of F_elders_of_ 0 ["version", "history"] [1, 0] fun _ _ _ _ _ _ us ws h1 h2 => match us, ws, h1, h2 with | [], [_, _], _, _ => rfl⟩
  have ky_path_of := okx_path_of (P := P) (w := w) (mg := mg) (base := base) B F_path_of_ c_Xcheck_version_3 c__upward
  have k_path_of := ok_path_of (P := P) (w := w) (mg := mg) (base := base) B F_path_of_ c__upward c_check_version_3
  have kx_path_of := fn_orX k_path_of ky_path_of
  have c_Xpath_of := kfXN F_path_of_ kx_path_of (He.glo_ok X G (c.fact 8 (f := .glo "path_of") rfl)) fun _ _ _ _ _ _ us hl => match us, hl with | [_, _], _ => rfl
  have c_path_of := kfN F_path_of_ k_path_of (He.glo_ok X G (c.fact 8 (f := .glo "path_of") rfl)) fun _ _ _ _ _ _ us hl => match us, hl with | [_, _], _ => rfl
  have c_path_of_kw0_1_0 : KfK P w K mg base 4 "path_of" (spD K 2 F_path_of) 0 ["version", "history"] [1, 0] := ⟨_, fd_path_of, _, k_path_of, (He.glo_ok X G (c.fact 8 (f := .glo "path_of") rfl)), F_path_of_.kp, kbn_of F_path_of_ 0 ["version", "history"] [1, 0] fun _ _ _ _ _ _ us ws h1 h2 => match us, ws, h1, h2 with | [], [_, _], _, _ => rfl⟩
  have ky_is_elder := okx_is_elder (P := P) (w := w) (mg := mg) (base := base) F_is_elder_ c_Xcheck_version_3 c__upward
  have k_is_elder := ok_is_elder (P := P) (w := w) (mg := mg) (base := base) F_is_elder_ c__upward c_check_version_3
  have kx_is_elder := fn_orX k_is_elder ky_is_elder
  have c_Xis_elder := kfXN F_is_elder_ kx_is_elder (He.glo_ok X G (c.fact 9 (f := .glo "is_elder") rfl)) fun _ _ _ _ _ _ us hl => match us, hl with | [_, _, _], _ => rfl
  have c_is_elder := kfN F_is_elder_ k_is_elder (He.glo_ok X G (c.fact 9 (f := .glo "is_elder") rfl)) fun _ _ _ _ _ _ us hl => match us, hl with | [_, _, _], _ => rfl
  have c_is_elder_kw0_2_1_0 : KfK P w K mg base 4 "is_elder" (spD K 3 F_is_elder) 0 ["other", "one", "history"] [2, 1, 0] := ⟨_, fd_is_elder, _, k_is_elder, (He.glo_ok X G (c.fact 9 (f := .glo "is_elder") rfl)), F_is_elder_.kp, kbn_of F_is_elder_ 0 ["other", "one", "history"] [2, 1, 0] fun _ _ _ _ _ _ us ws h1 h2 => match us, ws, h1, h2 with | [], [_, _, _], _, _ => rfl⟩
  have ky_meet_of := okx_meet_of (P := P) (w := w) (mg := mg) (base := base) F_meet_of_ c_Xcheck_version_3
  have k_meet_of := ok_meet_of (P := P) (w := w) (mg := mg) (base := base) F_meet_of_ c_check_version_3
  have kx_meet_of := fn_orX k_meet_of ky_meet_of
  have c_Xmeet_of := kfXN F_meet_of_ kx_meet_of (He.glo_ok X G (c.fact 10 (f := .glo "meet_of") rfl)) fun _ _ _ _ _ _ us hl => match us, hl with | [_, _, _], _ => rfl
  have c_meet_of := kfN F_meet_of_ k_meet_of (He.glo_ok X G (c.fact 10 (f := .glo "meet_of") rfl)) fun _ _ _ _ _ _ us hl => match us, hl with | [_, _, _], _ => rfl
  have c_meet_of_kw0_2_1_0 : KfK P w K mg base 4 "meet_of" (spD K 3 F_meet_of) 0 ["other", "one", "history"] [2, 1, 0] := ⟨_, fd_meet_of, _, k_meet_of, (He.glo_ok X G (c.fact 10 (f := .glo "meet_of") rfl)), F_meet_of_.kp, kbn_of F_meet_of_ 0 ["other", "one", "history"] [2, 1, 0] fun _ _ _ _ _ _ us ws h1 h2 => match us, ws, h1, h2 with | [], [_, _, _], _, _ => rfl⟩
  have ky_depth_of := okx_depth_of (P := P) (w := w) (mg := mg) (base := base) B F_depth_of_ c_Xcheck_version_3 c__upward
  have k_depth_of := ok_depth_of (P := P) (w := w) (mg := mg) (base := base) B F_depth_of_ c__upward c_check_version_3
  have kx_depth_of := fn_orX k_depth_of ky_depth_of
  have c_Xdepth_of := kfXN F_depth_of_ kx_depth_of (He.glo_ok X G (c.fact 11 (f := .glo "depth_of") rfl)) fun _ _ _ _ _ _ us hl => match us, hl with | [_, _], _ => rfl
  have c_depth_of := kfN F_depth_of_ k_depth_of (He.glo_ok X G (c.fact 11 (f := .glo "depth_of") rfl)) fun _ _ _ _ _ _ us hl => match us, hl with | [_, _], _ => rfl
  have c_depth_of_kw0_1_0 : KfK P w K mg base 4 "depth_of" (spD K 2 F_depth_of) 0 ["version", "history"] [1, 0] := ⟨_, fd_depth_of, _, k_depth_of, (He.glo_ok X G (c.fact 11 (f := .glo "depth_of") rfl)), F_depth_of_.kp, kbn_of F_depth_of_ 0 ["version", "history"] [1, 0] fun _ _ _ _ _ _ us ws h1 h2 => match us, ws, h1, h2 with | [], [_, _], _, _ => rfl⟩
  have ky_children_of := okx_children_of (P := P) (w := w) (mg := mg) (base := base) B F_children_of_ c_Xcheck_version_3
  have k_children_of := ok_children_of (P := P) (w := w) (mg := mg) (base := base) B F_children_of_ c_check_version_3
  have kx_children_of := fn_orX k_children_of ky_children_of
  have c_Xchildren_of := kfXN F_children_of_ kx_children_of (He.glo_ok X G (c.fact 14 (f := .glo "children_of") rfl)) fun _ _ _ _ _ _ us hl => match us, hl with | [_, _], _ => rfl
  have c_children_of := kfN F_children_of_ k_children_of (He.glo_ok X G (c.fact 14 (f := .glo "children_of") rfl)) fun _ _ _ _ _ _ us hl => match us, hl with | [_, _], _ => rfl
  have c_children_of_kw0_1_0 : KfK P w K mg base 4 "children_of" (spD K 2 F_children_of) 0 ["version", "history"] [1, 0] := ⟨_, fd_children_of, _, k_children_of, (He.glo_ok X G (c.fact 14 (f := .glo "children_of") rfl)), F_children_of_.kp, kbn_of F_children_of_ 0 ["version", "history"] [1, 0] fun _ _ _ _ _ _ us ws h1 h2 => match us, ws, h1, h2 with | [], [_, _], _, _ => rfl⟩
  have ky_branch_of := okx_branch_of (P := P) (w := w) (mg := mg) (base := base) B F_branch_of_ c_Xcheck_version_3
  have k_branch_of := ok_branch_of (P := P) (w := w) (mg := mg) (base := base) B F_branch_of_ c_check_version_3
  have kx_branch_of := fn_orX k_branch_of ky_branch_of
  have c_Xbranch_of := kfXN F_branch_of_ kx_branch_of (He.glo_ok X G (c.fact 15 (f := .glo "branch_of") rfl)) fun _ _ _ _ _ _ us hl => match us, hl with | [_, _], _ => rfl
  have c_branch_of := kfN F_branch_of_ k_branch_of (He.glo_ok X G (c.fact 15 (f := .glo "branch_of") rfl)) fun _ _ _ _ _ _ us hl => match us, hl with | [_, _], _ => rfl
  have c_branch_of_kw0_1_0 : KfK P w K mg base 4 "branch_of" (spD K 2 F_branch_of) 0 ["version", "history"] [1, 0] := ⟨_, fd_branch_of, _, k_branch_of, (He.glo_ok X G (c.fact 15 (f := .glo "branch_of") rfl)), F_branch_of_.kp, kbn_of F_branch_of_ 0 ["version", "history"] [1, 0] fun _ _ _ _ _ _ us ws h1 h2 => match us, ws, h1, h2 with | [], [_, _], _, _ => rfl⟩
  have k__law_door := ok__law_door (P := P) (w := w) (mg := mg) (base := base) B XI F__law_door_ c_Xbranch_of c_Xchildren_of c_Xdepth_of c_Xelders_of c_Xis_elder c_Xmeet_of c_Xparent_of c_Xpath_of
  have c__law_door := kfN F__law_door_ k__law_door (He.glo_ok X G (c.fact 26 (f := .glo "_law_door") rfl)) fun _ _ _ _ _ _ us hl => match us, hl with | [_, _, _, _], _ => rfl
  have kh__law_same : L2H.FnH P w K mg base CX0 9 _ fd__law_same ["_law_got", "_law_due"] (spD K 2 F__law_same) := okh__law_same (P := P) (w := w) (mg := mg) (base := base) B F__law_same_ (fun ok => kfHN F__law_same_ ok (He.glo_ok X G (c.fact 20 (f := .glo "_law_same") rfl)) fun _ _ _ _ _ _ us hl => match us, hl with | [_, _], _ => rfl) 8
  have c_H_law_same := kfHN F__law_same_ kh__law_same (He.glo_ok X G (c.fact 20 (f := .glo "_law_same") rfl)) fun _ _ _ _ _ _ us hl => match us, hl with | [_, _], _ => rfl
  have k__law_same : FnOk P w K mg base CX0 9 _ fd__law_same ["_law_got", "_law_due"] (spD K 2 F__law_same) := ok__law_same (P := P) (w := w) (mg := mg) (base := base) B F__law_same_ (fun ok => kfN F__law_same_ ok (He.glo_ok X G (c.fact 20 (f := .glo "_law_same") rfl)) fun _ _ _ _ _ _ us hl => match us, hl with | [_, _], _ => rfl) 8
  have c__law_same := kfN F__law_same_ k__law_same (He.glo_ok X G (c.fact 20 (f := .glo "_law_same") rfl)) fun _ _ _ _ _ _ us hl => match us, hl with | [_, _], _ => rfl
  have k__law_judged := ok__law_judged (P := P) (w := w) (mg := mg) (base := base) B XI F__law_judged_ c_H_law_same c_Xlets_history c__law_fault c__law_same c_is_history c_is_history_kw0_0 c_lets_history_kw0_0
  have c__law_judged := kfN F__law_judged_ k__law_judged (He.glo_ok X G (c.fact 25 (f := .glo "_law_judged") rfl)) fun _ _ _ _ _ _ us hl => match us, hl with | [_], _ => rfl
  have k__law_refusals := ok__law_refusals (P := P) (w := w) (mg := mg) (base := base) B F__law_refusals_ c__law_door c__law_same
  have c__law_refusals := kfN F__law_refusals_ k__law_refusals (He.glo_ok X G (c.fact 27 (f := .glo "_law_refusals") rfl)) fun _ _ _ _ _ _ us hl => match us, hl with | [_, _, _], _ => rfl
  have k__law_version := ok__law_version (P := P) (w := w) (mg := mg) (base := base) B F__law_version_ c__law_same c_branch_of c_branch_of_kw0_1_0 c_children_of c_children_of_kw0_1_0 c_depth_of c_depth_of_kw0_1_0 c_elders_of c_elders_of_kw0_1_0 c_parent_of c_parent_of_kw0_1_0 c_path_of c_path_of_kw0_1_0
  have c__law_version := kfN F__law_version_ k__law_version (He.glo_ok X G (c.fact 28 (f := .glo "_law_version") rfl)) fun _ _ _ _ _ _ us hl => match us, hl with | [_, _, _, _], _ => rfl
  have k__law_pair := ok__law_pair (P := P) (w := w) (mg := mg) (base := base) B F__law_pair_ c__law_same c_is_elder c_is_elder_kw0_2_1_0 c_meet_of c_meet_of_kw0_2_1_0
  have c__law_pair := kfN F__law_pair_ k__law_pair (He.glo_ok X G (c.fact 29 (f := .glo "_law_pair") rfl)) fun _ _ _ _ _ _ us hl => match us, hl with | [_, _, _, _, _], _ => rfl
  have k__law_whole := ok__law_whole (P := P) (w := w) (mg := mg) (base := base) B F__law_whole_ c__law_same c_depth_in c_depth_in_kw0_0 c_is_line c_is_line_kw0_0 c_leaves_of c_leaves_of_kw0_0 c_many_of c_many_of_kw0_0
  have c__law_whole := kfN F__law_whole_ k__law_whole (He.glo_ok X G (c.fact 30 (f := .glo "_law_whole") rfl)) fun _ _ _ _ _ _ us hl => match us, hl with | [_, _, _], _ => rfl
  have k_law := ok_law (P := P) (w := w) (mg := mg) (base := base) B F_law_ c__law_draws c__law_judged c__law_pair c__law_refusals c__law_thing c__law_tree c__law_ups c__law_version c__law_whole
  exact law_imp k_law
end K02
open PySem PySem.W PySem.Calls PyProof.Rows
theorem PySem.Challenge.cw_sincemarks_k02_whole_elders_holds : PySem.Challenge.rw_sincemarks_k02_whole_elders.Holds := by
  w_on; o_law
  refine HandSHeadRun.head_any (r := OpenLaw.row PySem.Challenge.rw_sincemarks_k02_whole_elders) (q := view (OpenLaw.row PySem.Challenge.rw_sincemarks_k02_whole_elders).prog [44]) (H := K02.hk) (ob := K02.ob) (M := 6000) (loose := K02.names) (d := HandSHeadRun.topDef (OpenLaw.row PySem.Challenge.rw_sincemarks_k02_whole_elders).prog 44) (kwd := []) K02.ob_eq
    (by kernel_rfl) (fun s => by kernel_rfl) K02.run (by kernel_rfl) (by kernel_rfl) (by kernel_rfl) (by rfl) (by first | assumption | decide +kernel) (by decide +kernel) ⟨rfl, rfl, rfl, rfl, rfl, by decide +kernel⟩ ?hw ?hc
  case hw => w_witness2
  case hc =>
    refine L2.walk_ofE (l := PySem.Challenge.rw_sincemarks_k02_whole_elders) (n := 63) (k := K02.level) (x := "_law_script") (CX := L2.CX0) rfl (by decide) (by kernel_rfl) ⟨rfl, by decide, by decide⟩ ?F (fun _ _ _ _ z => z)
    intro w mg fa h Y G hmg0
    obtain ⟨K, KX, c⟩ := Y
    have hmg : mg ("law" : PySem.Str) = some (.ref fa) := by
      have e : (HandSHeadRun.topDef (OpenLaw.row PySem.Challenge.rw_sincemarks_k02_whole_elders).prog 44).name = ("law" : PySem.Str) := by kernel_rfl
      rw [← e]
      exact hmg0
    obtain ⟨fd, hb, hF⟩ := K02.facts (P := (PySem.Challenge.rw_sincemarks_k02_whole_elders).prog) (w := w) KX G hmg c
    exact ⟨K, fd, K02.spLaw K, KX, hb, fun H a ns hl _ hS => ⟨a, ns, rfl, hS, hl, fun _ => rfl⟩, hF⟩
