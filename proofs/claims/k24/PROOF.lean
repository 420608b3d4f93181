import PyProof.Rows.All
import Wide.All
import OpenK.AllK
import Wide.FinOn
import HandS.ForMost
import HandS.Defaults
import HandS.Conv
import HandS.Zip
import HandS.Rev
import HandS.Style
import HandS.IsInst
import HandS.SortKw
import HandS.SortInts
import HandS.SortOrd
import HandS.TupAny
import HandS.TupLe
import HandS.Wide
import HandS.Flow
import KE.DataMinMax
import KE.SortData
import HandS.TupSets
import KE.GoesEnum
import KE.DataEq
import HandS.Exc
import HandS.ExcOwn
import HandS.ExcInit
import HandS.ExcField
import HandS.ExcIs
import HandS.TryMany
import HandS.ExcCtx
import HandS.HotCalls
import KE.KExcIs
import HandS.Head0
import HandS.Head1
import HandS.Head2
import HandS.HeadEnd
import HandS.HeadHook1
import HandS.HeadHook2
import HandS.Gcd
import KE.KMathGC
import HandS.TupMul
import HandS.Dict
import HandS.Deep
import HandS.Comp
import KE.GoesEnumKw
import HandS.RevRange
import HandS.Head3
import PySem.Challenge.RW_sincemarks_k24_tracks_turns_mirror
set_option Elab.async false
set_option linter.all false
set_option maxRecDepth 100000
set_option maxHeartbeats 0
namespace DL
open PySem PySem.Spec PyProof.Rows L2
abbrev St := L2.St
/-- a thing that is only asked: a set of ints, a range -/
inductive Ok where
  | ints (is : List Int)
  | rng (lo hi : Int)
  | xc (a dd : Addr) (fs : List (Str × V)) (ds : List (Str × PyData))
def Ok.At : Ok → HO → Prop
  | .ints is, o => ∃ n, o = .set (fun j => decide (j ∈ is)) n
  | .rng lo hi, o => o = .rng lo hi
  | .xc _ _ _ _, _ => False
inductive Sl where
  | im (d : PyData)
  | ac (ds : List PyData)
  | nl (dss : List (Bool × List PyData))
  | ob (k : Ok)
  | dk (kvs : List (Key × PyData))
  | me (c : Str) (fs : List (Str × PyData))
abbrev Ev := List (Option Sl)
inductive Rs where
  | im (d : PyData)
  | ac (ds : List PyData)
  | br (i : Nat)
def isAc : Option (Option Sl) → Bool
  | some (some (.ac _)) => true
  | _ => false
theorem isAc_iff {o : Option (Option Sl)} : isAc o = true ↔ ∃ ds, o = some (some (.ac ds)) := by
  constructor
  · intro h
    match o, h with
    | some (some (.ac ds)), _ => exact ⟨ds, rfl⟩
  · rintro ⟨ds, rfl⟩
    rfl
/-- the name of the class at C -/
def clsNm (K : PySem.W.Frag) (C : Addr) : Option Str := match K.lookup C with
  | some ⟨_, _, .cls cd, _⟩ => some cd.name
  | _ => none
def kyD : Key → PyData
  | .inl i => .int i
  | .inr x => .str x
def insK (c : Str) (ns : List Str) (ds : List PyData) : List (PyData × PyData) := (.none, .str c) :: (ns.zip ds).map fun p => (.str p.1, p.2)
def dctK (ks : List Key) (ds : List PyData) : List (PyData × PyData) := (ks.zip ds).map fun p => (kyD p.1, p.2)
mutual
inductive Dp (K : PySem.W.Frag) (H : Hp) : V → PyData → Prop
  | non : Dp K H .non .none
  | bl (b : Bool) : Dp K H (.bl b) (.bool b)
  | int (i : Int) : Dp K H (.int i) (.int i)
  | str (x : Str) : Dp K H (.str x) (.str x)
  | lst {a : Addr} {xs : List V} {ds : List PyData} : SqL K H a xs → DpAll K H xs ds → Dp K H (.ref a) (.list ds)
  | tup {a : Addr} {xs : List V} {ds : List PyData} : SqT K H a xs → DpAll K H xs ds → Dp K H (.ref a) (.tuple ds)
  | ins {a C dx : Addr} {fs : List (Str × V)} {c : Str} {ds : List PyData} {kvs : List (PyData × PyData)} : H a = some (.ins C dx fs) → clsNm K C = some c → DpAll K H (fs.map (·.2)) ds → kvs = insK c (fs.map (·.1)) ds → Dp K H (.ref a) (.dict kvs)
  | dct {a : Addr} {ps : List (Key × V)} {ds : List PyData} {kvs : List (PyData × PyData)} : H a = some (.dK ps) → DpAll K H (ps.map (·.2)) ds → kvs = dctK (ps.map (·.1)) ds → Dp K H (.ref a) (.dict kvs)
inductive DpAll (K : PySem.W.Frag) (H : Hp) : List V → List PyData → Prop
  | nil : DpAll K H [] []
  | cons {v : V} {vs : List V} {d : PyData} {ds : List PyData} : Dp K H v d → DpAll K H vs ds → DpAll K H (v :: vs) (d :: ds)
end
mutual
def noDict : PyData → Bool
  | .list ds => noDicts ds
  | .tuple ds => noDicts ds
  | .dict _ => false
  | _ => true
def noDicts : List PyData → Bool
  | [] => true
  | d :: ds => noDict d && noDicts ds
end
mutual
theorem Dp.lib {K : PySem.W.Frag} {H : Hp} : ∀ {v : V} {d : PyData}, Dp K H v d → noDict d = true → L2.Dp K H v d
  | _, _, .non, _ => .non
  | _, _, .bl b, _ => .bl b
  | _, _, .int i, _ => .int i
  | _, _, .str x, _ => .str x
  | _, _, .lst h q, n => .lst h (DpAll.lib q n)
  | _, _, .tup h q, n => .tup h (DpAll.lib q n)
  | _, _, .ins _ _ _ _, n => by cases n
  | _, _, .dct _ _ _, n => by cases n
theorem DpAll.lib {K : PySem.W.Frag} {H : Hp} : ∀ {vs : List V} {ds : List PyData}, DpAll K H vs ds → noDicts ds = true → L2.DpAll K H vs ds
  | _, _, .nil, _ => .nil
  | _, _, .cons h q, n => by
    have n : (noDict _ && noDicts _) = true := n
    rw [Bool.and_eq_true] at n
    exact .cons (Dp.lib h n.1) (DpAll.lib q n.2)
end
mutual
theorem canNo : ∀ {d : PyData}, PyData.canLay0 d = true → noDict d = true
  | .none, _ => rfl
  | .bool _, _ => rfl
  | .int _, _ => rfl
  | .str _, _ => rfl
  | .list ds, h => by
    rw [PyData.canLay0] at h
    exact canNos h
  | .tuple ds, h => by
    rw [PyData.canLay0] at h
    exact canNos h
  | .dict _, h => by
    rw [PyData.canLay0] at h
    cases h
theorem canNos : ∀ {ds : List PyData}, PyData.canLayAll0 ds = true → noDicts ds = true
  | [], _ => rfl
  | d :: ds, h => by
    rw [PyData.canLayAll0, Bool.and_eq_true] at h
    show (noDict d && noDicts ds) = true
    rw [canNo h.1, canNos h.2]
    rfl
end
theorem noDicts_all : ∀ {ds : List PyData}, noDicts ds = true ↔ ∀ d ∈ ds, noDict d = true
  | [] => Iff.intro (fun _ d h => (by cases h)) (fun _ => rfl)
  | d :: ds => by
    show (noDict d && noDicts ds) = true ↔ _
    rw [Bool.and_eq_true, noDicts_all (ds := ds)]
    constructor
    · rintro ⟨h1, h2⟩ x hx
      rcases List.mem_cons.mp hx with z | z
      · rw [z]; exact h1
      · exact h2 x z
    · exact fun h => ⟨h d List.mem_cons_self, fun x hx => h x (List.mem_cons_of_mem _ hx)⟩
theorem noDict_ints (ns : List Int) : noDicts (ns.map PyData.int) = true := noDicts_all.mpr fun d h => by
  obtain ⟨_, _, rfl⟩ := List.mem_map.mp h
  rfl
section
variable {K : PySem.W.Frag} {E : Ef} {G G' G1 G2 H H' H1 G0 : Hp} {v : V} {vs ws : List V} {d : PyData} {ds : List PyData} {p a : Addr} {o : HO} {σ σ' : St} {e e' e1 : Ev} {m : Option Addr} {i : Nat} {r : Rs}
theorem seqT (s : Same G G') {xs : List V} (h : SqT K G a xs) : SqT K G' a xs := by
  rcases h with (h | ⟨q, h⟩) | h
  · exact .inl (.inl (s _ _ h))
  · exact .inl (.inr ⟨q, s _ _ h⟩)
  · exact .inr h
mutual
theorem dp_same (s : Same G G') : ∀ {v : V} {d : PyData}, Dp K G v d → Dp K G' v d
  | _, _, .non => .non
  | _, _, .bl b => .bl b
  | _, _, .int i => .int i
  | _, _, .str x => .str x
  | _, _, .lst h q => .lst (s.seq h) (dpAll_same s q)
  | _, _, .tup h q => .tup (seqT s h) (dpAll_same s q)
  | _, _, .ins h n q e => .ins (s _ _ h) n (dpAll_same s q) e
  | _, _, .dct h q e => .dct (s _ _ h) (dpAll_same s q) e
theorem dpAll_same (s : Same G G') : ∀ {vs : List V} {ds : List PyData}, DpAll K G vs ds → DpAll K G' vs ds
  | _, _, .nil => .nil
  | _, _, .cons h q => .cons (dp_same s h) (dpAll_same s q)
end
theorem dpAll_len : ∀ {vs : List V} {ds : List PyData}, DpAll K G vs ds → vs.length = ds.length
  | _, _, .nil => rfl
  | _, _, .cons _ q => congrArg (· + 1) (dpAll_len q)
theorem dpAll_get : ∀ {vs : List V} {ds : List PyData} {i : Nat} {d : PyData}, DpAll K G vs ds → ds[i]? = some d → ∃ v, vs[i]? = some v ∧ Dp K G v d
  | _, _, _, _, .nil, z => by simp at z
  | _, _, 0, _, .cons (v := v) h _, z => ⟨v, rfl, by
      have z2 := Option.some.inj z
      rw [← z2]
      exact h⟩
  | _, _, i + 1, _, .cons _ q, z => by
      obtain ⟨v, h1, h2⟩ := dpAll_get (i := i) q (by simpa using z)
      exact ⟨v, by simpa using h1, h2⟩
theorem dpAll_at : ∀ {vs : List V} {ds : List PyData} {i : Nat} {v : V}, DpAll K G vs ds → vs[i]? = some v → ∃ d, ds[i]? = some d ∧ Dp K G v d
  | _, _, _, _, .nil, z => by simp at z
  | _, _, 0, _, .cons (d := d) h _, z => ⟨d, rfl, by
      have z2 := Option.some.inj z
      rw [← z2]
      exact h⟩
  | _, _, i + 1, _, .cons _ q, z => by
      obtain ⟨v, h1, h2⟩ := dpAll_at (i := i) q (by simpa using z)
      exact ⟨v, by simpa using h1, h2⟩
theorem dpAll_app : ∀ {vs ws : List V} {ds es : List PyData}, DpAll K G vs ds → DpAll K G ws es → DpAll K G (vs ++ ws) (ds ++ es)
  | _, _, _, _, .nil, q => q
  | _, _, _, _, .cons h t, q => .cons h (dpAll_app t q)
theorem dpAll_set : ∀ {vs : List V} {ds : List PyData} (i : Nat), DpAll K G vs ds → Dp K G v d → DpAll K G (vs.set i v) (ds.set i d)
  | _, _, _, .nil, _ => .nil
  | _, _, 0, .cons _ t, q => .cons q t
  | _, _, i + 1, .cons h t, q => .cons h (dpAll_set i t q)
theorem dpAll_take : ∀ {vs : List V} {ds : List PyData} (n : Nat), DpAll K G vs ds → DpAll K G (vs.take n) (ds.take n)
  | _, _, 0, _ => .nil
  | _, _, _ + 1, .nil => .nil
  | _, _, n + 1, .cons h t => .cons h (dpAll_take n t)
theorem dpAll_drop : ∀ {vs : List V} {ds : List PyData} (n : Nat), DpAll K G vs ds → DpAll K G (vs.drop n) (ds.drop n)
  | _, _, 0, t => t
  | _, _, _ + 1, .nil => .nil
  | _, _, n + 1, .cons _ t => dpAll_drop n t
theorem dpAll_rev : ∀ {vs : List V} {ds : List PyData}, DpAll K G vs ds → DpAll K G vs.reverse ds.reverse
  | _, _, .nil => .nil
  | _, _, .cons h t => by
    rw [List.reverse_cons, List.reverse_cons]
    exact dpAll_app (dpAll_rev t) (.cons h .nil)
theorem dpAll_ints : ∀ (ns : List Int), DpAll K G (ns.map V.int) (ns.map PyData.int)
  | [] => .nil
  | n :: ns => .cons (.int n) (dpAll_ints ns)
def Own (σ : St) (e : Ev) (a : Addr) : Prop := ∃ (i : Nat) (ds : List PyData), e[i]? = some (some (.ac ds)) ∧ σ[i]? = some (some (.ref a))
/-- what stood at the entry; the instance that is being made -/
structure Bs where
  f : Hp
  s : Option Addr
instance : CoeFun Bs (fun _ => Hp) := ⟨Bs.f⟩
/-- what stood at the entry (b), and what is kept beside it since (h) -/
structure Ef where
  h : Hp
  b : Bs
  sub : ∀ a o, b a = some o → h a = some o
instance : CoeFun Ef (fun _ => Hp) := ⟨Ef.h⟩
def Ef.of (H : Hp) : Ef := ⟨H, ⟨H, none⟩, fun _ _ z => z⟩
/-- an inner list: left as it is (true), or one's own -/
def NiF (K : PySem.W.Frag) (m : Option Addr) (E : Ef) (G0 G : Hp) (b : Bool) (ds : List PyData) (q : Addr) : Prop := match b with
  | true => Dp K G (.ref q) (.list ds)
  | false => E.b q = none ∧ G0 q = none ∧ m ≠ some q ∧ ∃ ws, E.h q = some (.lst ws) ∧ DpAll K G ws ds
/-- a list of one's own lists -/
def NlF (K : PySem.W.Frag) (m : Option Addr) (E : Ef) (G0 G : Hp) (o : Option (Option V)) (dss : List (Bool × List PyData)) : Prop :=
  ∃ (p : Addr) (qs : List Addr), o = some (some (.ref p)) ∧ E.h p = some (.lst (qs.map V.ref)) ∧ E.b p = none ∧ G0 p = none ∧ m ≠ some p ∧ qs.length = dss.length ∧ (p :: qs).Nodup ∧
    ∀ (j : Nat) (b : Bool) (ds : List PyData) (q : Addr), dss[j]? = some (b, ds) → qs[j]? = some q → NiF K m E G0 G b ds q
theorem NiF.mono {K : PySem.W.Frag} {m : Option Addr} {E : Ef} {G0 G G' : Hp} (s : Same G G') : ∀ {b : Bool} {ds : List PyData} {q : Addr}, NiF K m E G0 G b ds q → NiF K m E G0 G' b ds q
  | true, _, _, h => dp_same s h
  | false, _, _, ⟨h1, h2, h3, ws, h4, h5⟩ => ⟨h1, h2, h3, ws, h4, dpAll_same s h5⟩
theorem NlF.mono {K : PySem.W.Frag} {m : Option Addr} {E : Ef} {G0 G G' : Hp} {o : Option (Option V)} {dss : List (Bool × List PyData)} (s : Same G G') (h : NlF K m E G0 G o dss) : NlF K m E G0 G' o dss := by
  obtain ⟨p, qs, h1, h2, h3, h4, h5, h6, h7, h8⟩ := h
  exact ⟨p, qs, h1, h2, h3, h4, h5, h6, h7, fun j b ds q a1 a2 => (h8 j b ds q a1 a2).mono s⟩
/-- an exception that a clause holds: itself it lies outside, its dict is told -/
def ObF (K : PySem.W.Frag) (G : Hp) (o : Option (Option V)) : Ok → Prop
  | .xc a dd fs ds => o = some (some (.ref a)) ∧ G dd = some (.xd fs) ∧ fs.map (·.1) = ds.map (·.1) ∧ DpAll K G (fs.map (·.2)) (ds.map (·.2))
  | .ints is => ∃ (p : Addr) (u : HO), o = some (some (.ref p)) ∧ G p = some u ∧ (Ok.ints is).At u
  | .rng lo hi => ∃ (p : Addr) (u : HO), o = some (some (.ref p)) ∧ G p = some u ∧ (Ok.rng lo hi).At u
/-- a dict's items -/
def Dkv (K : PySem.W.Frag) (G : Hp) (ws : List (Key × V)) (kvs : List (Key × PyData)) : Prop := ws.map (·.1) = kvs.map (·.1) ∧ DpAll K G (ws.map (·.2)) (kvs.map (·.2))
/-- one's own dict -/
def DkF (K : PySem.W.Frag) (m : Option Addr) (E : Ef) (G0 G : Hp) (o : Option (Option V)) (kvs : List (Key × PyData)) : Prop :=
  ∃ (p : Addr) (ws : List (Key × V)), o = some (some (.ref p)) ∧ E.h p = some (.dK ws) ∧ E.b p = none ∧ G0 p = none ∧ m ≠ some p ∧ Dkv K G ws kvs
/-- an instance that is being made: its class, its fields so far -/
def MeF (K : PySem.W.Frag) (m : Option Addr) (E : Ef) (G0 G : Hp) (o : Option (Option V)) (c : Str) (fs : List (Str × PyData)) : Prop :=
  ∃ (p C dx : Addr) (ws : List (Str × V)), o = some (some (.ref p)) ∧ E.h p = some (.ins C dx ws) ∧ (E.b p = none ∧ E.b.s = some p) ∧ G0 p = none ∧ m ≠ some p ∧ clsNm K C = some c ∧ ws.map (·.1) = fs.map (·.1) ∧ DpAll K G (ws.map (·.2)) (fs.map (·.2))
def OtF (K : PySem.W.Frag) (m : Option Addr) (E : Ef) (G0 G : Hp) (o : Option (Option V)) : Sl → Prop
  | .nl dss => NlF K m E G0 G o dss
  | .dk kvs => DkF K m E G0 G o kvs
  | .me c fs => MeF K m E G0 G o c fs
  | .ob k => ObF K G o k
  | _ => True
theorem OtF.mono {K : PySem.W.Frag} {m : Option Addr} {E : Ef} {G0 G G' : Hp} {o : Option (Option V)} (s : Same G G') : ∀ {x : Sl}, OtF K m E G0 G o x → OtF K m E G0 G' o x
  | .nl _, h => NlF.mono s h
  | .dk _, ⟨p, ws, h1, h2, h3, h4, h5, h6, h7⟩ => ⟨p, ws, h1, h2, h3, h4, h5, h6, dpAll_same s h7⟩
  | .me _ _, ⟨p, C, dx, ws, h1, h2, h3, h4, h5, h6, h7, h8⟩ => ⟨p, C, dx, ws, h1, h2, h3, h4, h5, h6, h7, dpAll_same s h8⟩
  | .ob (.ints _), ⟨p, u, h1, h2, h3⟩ => ⟨p, u, h1, s p u h2, h3⟩
  | .ob (.rng _ _), ⟨p, u, h1, h2, h3⟩ => ⟨p, u, h1, s p u h2, h3⟩
  | .ob (.xc _ _ _ _), ⟨h1, h2, h3, h4⟩ => ⟨h1, s _ _ h2, h3, dpAll_same s h4⟩
  | .im _, _ => True.intro
  | .ac _, _ => True.intro
/-- the slots e are what σ holds: G what stays, H what stands, E what stood at the entry but the object at m -/
structure Rl (K : PySem.W.Frag) (m : Option Addr) (E : Ef) (G0 G : Hp) (e : Ev) (σ : St) (H : Hp) : Prop where
  gg : Same G0 G
  gh : Same G H
  eh : ∀ a o, E a = some o → m ≠ some a → H a = some o
  mh : ∀ a, m = some a → E a ≠ none ∧ H a ≠ none
  nw : ∀ a, G0 a = none → E a ≠ none → G a = none
  len : e.length = σ.length
  im : ∀ (i : Nat) (d : PyData), e[i]? = some (some (.im d)) → ∃ (v : V), σ[i]? = some (some v) ∧ Dp K G v d
  ac : ∀ (i : Nat) (ds : List PyData), e[i]? = some (some (.ac ds)) → ∃ (p : Addr) (ws : List V), σ[i]? = some (some (.ref p)) ∧ G p = none ∧ H p = some (.lst ws) ∧ DpAll K G ws ds ∧ (E p = none ∨ (m = some p ∧ i = 0))
  inj : ∀ (i j : Nat) (di dj : List PyData) (p : Addr), e[i]? = some (some (.ac di)) → e[j]? = some (some (.ac dj)) → σ[i]? = some (some (.ref p)) → σ[j]? = some (some (.ref p)) → i = j
  ot : ∀ (i : Nat) (s : Sl), e[i]? = some (some s) → OtF K m E G0 G σ[i]? s
theorem Rl.nl {K : PySem.W.Frag} {m : Option Addr} {E : Ef} {G0 G : Hp} {e : Ev} {σ : St} {H : Hp} (R : Rl K m E G0 G e σ H) (i : Nat) (dss : List (Bool × List PyData)) (h : e[i]? = some (some (.nl dss))) : NlF K m E G0 G σ[i]? dss := R.ot i (.nl dss) h
/-- from one moment of an expression to a later one -/
structure Stp (σ : St) (G H : Hp) (e : Ev) (G' H' : Hp) (e' : Ev) : Prop where
  gg : Same G G'
  nw : ∀ a, G a = none → H a ≠ none → G' a = none
  hh : ∀ a o, H a = some o → ¬ Own σ e a → H' a = some o
  kd : ∀ i : Nat, isAc e'[i]? = isAc e[i]?
  th : ∀ a, H a ≠ none → H' a ≠ none
theorem own_kd (k : ∀ i : Nat, isAc e'[i]? = isAc e[i]?) : Own σ e' a ↔ Own σ e a := by
  constructor
  · rintro ⟨i, ds, h1, h2⟩
    have z : isAc e[i]? = true := by rw [← k i, h1]; rfl
    obtain ⟨ds', q⟩ := isAc_iff.mp z
    exact ⟨i, ds', q, h2⟩
  · rintro ⟨i, ds, h1, h2⟩
    have z : isAc e'[i]? = true := by rw [k i, h1]; rfl
    obtain ⟨ds', q⟩ := isAc_iff.mp z
    exact ⟨i, ds', q, h2⟩
theorem Stp.refl : Stp σ G H e G H e := ⟨Same.refl _, fun _ h _ => h, fun _ _ h _ => h, fun _ => rfl, fun _ h => h⟩
theorem Stp.trans (a : Stp σ G H e G1 H1 e1) (b : Stp σ G1 H1 e1 G' H' e') : Stp σ G H e G' H' e' where
  gg := a.gg.trans b.gg
  nw := fun x h1 h2 => b.nw x (a.nw x h1 h2) (a.th x h2)
  hh := fun x o h1 h2 => b.hh x o (a.hh x o h1 h2) fun z => h2 ((own_kd a.kd).mp z)
  kd := fun i => (b.kd i).trans (a.kd i)
  th := fun x h => b.th x (a.th x h)
/-- a value as a result -/
def Vr (K : PySem.W.Frag) (E : Ef) (G H : Hp) (σ : St) (e : Ev) (v : V) : Rs → Prop
  | .im d => Dp K G v d
  | .ac ds => ∃ p ws, v = .ref p ∧ E p = none ∧ G p = none ∧ H p = some (.lst ws) ∧ DpAll K G ws ds ∧ ¬ Own σ e p
  | .br i => ∃ ds, e[i]? = some (some (.ac ds)) ∧ σ[i]? = some (some v)
/-- a new list was not there ahead -/
def Nw (H : Hp) (v : V) : Rs → Prop
  | .ac _ => ∀ p, v = .ref p → H p = none
  | _ => True
theorem Vr.stp (S : Stp σ G H e G' H' e') : ∀ {r : Rs}, Vr K E G H σ e v r → Vr K E G' H' σ e' v r
  | .im d, h => dp_same S.gg h
  | .ac ds, h => by
    obtain ⟨p, ws, rfl, h1, h2, h3, h4, h5⟩ := h
    exact ⟨p, ws, rfl, h1, S.nw p h2 (by rw [h3]; simp), S.hh p _ h3 h5, dpAll_same S.gg h4, fun z => h5 ((own_kd S.kd).mp z)⟩
  | .br i, h => by
    obtain ⟨ds, h1, h2⟩ := h
    have z : isAc e'[i]? = true := by rw [S.kd i, h1]; rfl
    obtain ⟨ds', q⟩ := isAc_iff.mp z
    exact ⟨ds', q, h2⟩
/-- the frozen form -/
def frzR : Rs → Rs
  | .ac ds => .im (.list ds)
  | r => r
/-- a new list is left as it is for good -/
theorem Rl.freeze (R : Rl K m E G0 G' e' σ H') (S : Stp σ G H e G' H' e') (h : Vr K E G' H' σ e' v r) (n : Nw H v r) :
    ∃ G2, Rl K m E G0 G2 e' σ H' ∧ Stp σ G H e G2 H' e' ∧ Same G' G2 ∧ Vr K E G2 H' σ e' v (frzR r) := by
  cases r with
  | im d => exact ⟨G', R, S, Same.refl _, h⟩
  | br i => exact ⟨G', R, S, Same.refl _, h⟩
  | ac ds =>
    obtain ⟨p, ws, rfl, h1, h2, h3, h4, h5⟩ := h
    have s1 : Same G' (upd G' p (.lst ws)) := fun b o q => by
      rw [upd_ne (ne_of_none q h2)]
      exact q
    have hp : H p = none := n p rfl
    refine ⟨upd G' p (.lst ws), ⟨R.gg.trans s1, fun b o q => ?_, R.eh, R.mh, fun b b1 b2 => ?_, R.len, fun i d q => ?_, fun i ds' q => ?_, R.inj, fun i dss q => (R.ot i dss q).mono s1⟩, ⟨S.gg.trans s1, fun b b1 b2 => ?_, S.hh, S.kd, S.th⟩, s1, ?_⟩
    · by_cases z : b = p
      · subst z
        rw [upd_same] at q
        rw [h3]
        exact q
      · rw [upd_ne z] at q
        exact R.gh b o q
    · have z : b ≠ p := fun z => b2 (by rw [z]; exact h1)
      rw [upd_ne z]
      exact R.nw b b1 b2
    · obtain ⟨u, q1, q2⟩ := R.im i d q
      exact ⟨u, q1, dp_same s1 q2⟩
    · obtain ⟨p', ws', q1, q2, q3, q4, q5⟩ := R.ac i ds' q
      have z : p' ≠ p := fun z => h5 ⟨i, ds', q, by rw [← z]; exact q1⟩
      exact ⟨p', ws', q1, by rw [upd_ne z]; exact q2, q3, dpAll_same s1 q4, q5⟩
    · have z : b ≠ p := fun z => b2 (by rw [z]; exact hp)
      rw [upd_ne z]
      exact S.nw b b1 b2
    · exact .lst (.inl (.inl upd_same)) (dpAll_same s1 h4)
/-- a list's own items may be in H, not in G -/
def Lv (K : PySem.W.Frag) (G H : Hp) (v : V) (d : PyData) : Prop := Dp K G v d ∨ ∃ p ws ds, v = .ref p ∧ d = .list ds ∧ H p = some (.lst ws) ∧ DpAll K G ws ds
/-- what a frozen result holds -/
def lookR (e : Ev) : Rs → Option PyData
  | .im d => some d
  | .ac _ => none
  | .br i => match e[i]? with
    | some (some (.ac ds)) => some (.list ds)
    | _ => none
theorem Rl.look (R : Rl K m E G0 G e σ H) (h : Vr K E G H σ e v r) (q : lookR e r = some d) : Lv K G H v d := by
  cases r with
  | im d' =>
    cases q
    exact .inl h
  | ac ds => cases q
  | br i =>
    obtain ⟨ds, h1, h2⟩ := h
    simp only [lookR, h1, Option.some.injEq] at q
    subst q
    obtain ⟨p, ws, q1, q2, q3, q4, q5⟩ := R.ac i ds h1
    rw [h2] at q1
    cases q1
    exact .inr ⟨p, ws, ds, rfl, rfl, q3, q4⟩
theorem Lv.dp (s : Same G H) (h : Lv K G H v d) : Dp K H v d := by
  rcases h with h | ⟨p, ws, ds, rfl, rfl, h1, h2⟩
  · exact dp_same s h
  · exact .lst (.inl (.inl h1)) (dpAll_same s h2)
/-- as a list -/
theorem Lv.list (s : Same G H) (h : Lv K G H v (.list ds)) : ∃ p ws, v = .ref p ∧ SqL K H p ws ∧ DpAll K G ws ds := by
  rcases h with h | ⟨p, ws, ds', rfl, e, h1, h2⟩
  · cases h with
    | lst h q => exact ⟨_, _, rfl, s.seq h, q⟩
  · cases e
    exact ⟨p, ws, rfl, .inl (.inl h1), h2⟩
theorem Lv.tup (s : Same G H) (h : Lv K G H v (.tuple ds)) : ∃ p ws, v = .ref p ∧ SqT K H p ws ∧ DpAll K G ws ds := by
  rcases h with h | ⟨p, ws, ds', rfl, e, h1, h2⟩
  · cases h with
    | tup h q => exact ⟨_, _, rfl, seqT s h, q⟩
  · cases e
theorem Lv.int {i : Int} (h : Lv K G H v (.int i)) : v = .int i := by
  rcases h with h | ⟨p, ws, ds, rfl, e, _⟩
  · cases h
    rfl
  · cases e
theorem Lv.bool {b : Bool} (h : Lv K G H v (.bool b)) : v = .bl b := by
  rcases h with h | ⟨p, ws, ds, rfl, e, _⟩
  · cases h
    rfl
  · cases e
theorem Lv.none (h : Lv K G H v .none) : v = .non := by
  rcases h with h | ⟨p, ws, ds, rfl, e, _⟩
  · cases h
    rfl
  · cases e
theorem Lv.str {x : Str} (h : Lv K G H v (.str x)) : v = .str x := by
  rcases h with h | ⟨p, ws, ds, rfl, e, _⟩
  · cases h
    rfl
  · cases e
theorem Rl.fresh (R : Rl K m E G0 G e σ H) (h : H p = none) : G p = none ∧ E p = none ∧ ¬ Own σ e p ∧ m ≠ some p := by
  refine ⟨R.gh.free h, ?_, ?_, ?_⟩
  · cases q : E p with
    | none => rfl
    | some o =>
      by_cases z : m = some p
      · exact absurd h (R.mh p z).2
      · rw [R.eh p o q z] at h
        cases h
  · rintro ⟨i, ds, h1, h2⟩
    obtain ⟨p', ws, q1, _, q3, _⟩ := R.ac i ds h1
    rw [h2] at q1
    cases q1
    rw [h] at q3
    cases q3
  · intro z
    exact absurd h (R.mh p z).2
theorem same_new (h : H p = none) : Same H (upd H p o) := fun b u q => by
  rw [upd_ne (ne_of_none q h)]
  exact q
/-- a new tuple -/
theorem Rl.newT (R : Rl K m E G0 G e σ H) (h : H p = none) (q : DpAll K G ws ds) :
    Rl K m E G0 (upd G p (.tup ws)) e σ (upd H p (.tup ws)) ∧ Stp σ G H e (upd G p (.tup ws)) (upd H p (.tup ws)) e ∧ Dp K (upd G p (.tup ws)) (.ref p) (.tuple ds) := by
  obtain ⟨hG, hE, hO, hm⟩ := R.fresh h
  have s1 : Same G (upd G p (.tup ws)) := same_new hG
  have nb : ∀ {b : Addr}, H b ≠ none → b ≠ p := fun {b} z y => z (by rw [y]; exact h)
  refine ⟨⟨R.gg.trans s1, fun b u z => ?_, fun b u b1 b2 => ?_, fun b b1 => ⟨(R.mh b b1).1, ?_⟩, fun b b1 b2 => ?_, R.len, fun i d z => ?_, fun i ds' z => ?_, R.inj, fun i dss z => (R.ot i dss z).mono s1⟩, ⟨s1, fun b b1 b2 => ?_, fun b u b1 _ => same_new h b u b1, fun _ => rfl, fun b b1 => ?_⟩, .tup (.inl (.inl upd_same)) (dpAll_same s1 q)⟩
  · by_cases y : b = p
    · subst y
      rw [upd_same] at z ⊢
      exact z
    · rw [upd_ne y] at z ⊢
      exact R.gh b u z
  · exact same_new h b u (R.eh b u b1 b2)
  · rw [upd_ne (nb (R.mh b b1).2)]
    exact (R.mh b b1).2
  · have y : b ≠ p := fun y => b2 (by rw [y]; exact hE)
    rw [upd_ne y]
    exact R.nw b b1 b2
  · obtain ⟨u, z1, z2⟩ := R.im i d z
    exact ⟨u, z1, dp_same s1 z2⟩
  · obtain ⟨p', ws', z1, z2, z3, z4, z5⟩ := R.ac i ds' z
    have y : p' ≠ p := nb (by rw [z3]; simp)
    exact ⟨p', ws', z1, by rw [upd_ne y]; exact z2, by rw [upd_ne y]; exact z3, dpAll_same s1 z4, z5⟩
  · rw [upd_ne (nb b2)]
    exact b1
  · rw [upd_ne (nb b1)]
    exact b1
/-- a new list -/
theorem Rl.newL (R : Rl K m E G0 G e σ H) (h : H p = none) (q : DpAll K G ws ds) :
    Rl K m E G0 G e σ (upd H p (.lst ws)) ∧ Stp σ G H e G (upd H p (.lst ws)) e ∧ Vr K E G (upd H p (.lst ws)) σ e (.ref p) (.ac ds) ∧ Nw H (.ref p) (.ac ds) := by
  obtain ⟨hG, hE, hO, hm⟩ := R.fresh h
  have nb : ∀ {b : Addr}, H b ≠ none → b ≠ p := fun {b} z y => z (by rw [y]; exact h)
  refine ⟨⟨R.gg, R.gh.trans (same_new h), fun b u b1 b2 => same_new h b u (R.eh b u b1 b2), fun b b1 => ⟨(R.mh b b1).1, ?_⟩, R.nw, R.len, R.im, fun i ds' z => ?_, R.inj, R.ot⟩, ⟨Same.refl _, fun _ b1 _ => b1, fun b u b1 _ => same_new h b u b1, fun _ => rfl, fun b b1 => ?_⟩, ⟨p, ws, rfl, hE, hG, upd_same, q, hO⟩, fun p' z => ?_⟩
  · rw [upd_ne (nb (R.mh b b1).2)]
    exact (R.mh b b1).2
  · obtain ⟨p', ws', z1, z2, z3, z4, z5⟩ := R.ac i ds' z
    have y : p' ≠ p := nb (by rw [z3]; simp)
    exact ⟨p', ws', z1, z2, by rw [upd_ne y]; exact z3, z4, z5⟩
  · rw [upd_ne (nb b1)]
    exact b1
  · cases z
    exact h
end
end DL
namespace DL
open PySem PySem.Spec PyProof.Rows L2
abbrev Fe := Ev → Option (Rs × Ev)
abbrev Ft := Ev → Option (Bool × Ev)
abbrev Fa := Ev → Option (List Rs × Ev)
inductive Fl where
  | nx (e : Ev)
  | bk (e : Ev)
  | ct (e : Ev)
  | rt (r : Rs) (e : Ev)
abbrev Fs := Ev → Option Fl
/-- what must follow a result -/
def Po (K : PySem.W.Frag) (m : Option Addr) (E : Ef) (G0 : Hp) (σ : St) (G H : Hp) (e : Ev) (r : Rs) (e' : Ev) (Q : VK) : Prop :=
  ∀ v G' H', Rl K m E G0 G' e' σ H' → Stp σ G H e G' H' e' → Vr K E G' H' σ e' v r → Nw H v r → Q v H'
structure ED (X : Cx) (x : Expr) (f : Fe) : Prop where
  ex : ∃ t : TE, PE X x t ∧ ∀ (m : Option Addr) (E : Ef) (G0 G : Hp) (e : Ev) (σ : St) (H : Hp) (r : Rs) (e' : Ev) (Q : VK),
    Rl X.K m E G0 G e σ H → f e = some (r, e') → Po X.K m E G0 σ G H e r e' Q → t σ H Q
structure TD (X : Cx) (x : Expr) (f : Ft) : Prop where
  ex : ∃ t : TT, PT X x t ∧ ∀ (m : Option Addr) (E : Ef) (G0 G : Hp) (e : Ev) (σ : St) (H : Hp) (b : Bool) (e' : Ev) (Q : Bool → Hp → Prop),
    Rl X.K m E G0 G e σ H → f e = some (b, e') → (∀ G' H', Rl X.K m E G0 G' e' σ H' → Stp σ G H e G' H' e' → Q b H') → t σ H Q
structure WD (X : Cx) (x : Expr) (f : Ft) : Prop where
  ex : ∃ t : TT, PW X x t ∧ ∀ (m : Option Addr) (E : Ef) (G0 G : Hp) (e : Ev) (σ : St) (H : Hp) (b : Bool) (e' : Ev) (Q : Bool → Hp → Prop),
    Rl X.K m E G0 G e σ H → f e = some (b, e') → (∀ G' H', Rl X.K m E G0 G' e' σ H' → Stp σ G H e G' H' e' → Q b H') → t σ H Q
def VrAll (K : PySem.W.Frag) (E : Ef) (G H : Hp) (σ : St) (e : Ev) : List V → List Rs → Prop
  | [], [] => True
  | v :: vs, r :: rs => Vr K E G H σ e v r ∧ VrAll K E G H σ e vs rs
  | _, _ => False
structure AD (X : Cx) (xs : List Expr) (f : Fa) : Prop where
  ex : ∃ t : TA, PA X xs t ∧ ∀ (m : Option Addr) (E : Ef) (G0 G : Hp) (e : Ev) (σ : St) (H : Hp) (rs : List Rs) (e' : Ev) (Q : List V → Hp → Prop),
    Rl X.K m E G0 G e σ H → f e = some (rs, e') → (∀ vs G' H', Rl X.K m E G0 G' e' σ H' → Stp σ G H e G' H' e' → VrAll X.K E G' H' σ e' vs rs → Q vs H') → t σ H Q
def lookAll (e : Ev) : List Rs → Option (List PyData)
  | [] => some []
  | r :: rs => match lookR e r with
    | some d => (match lookAll e rs with
      | some ds => some (d :: ds)
      | none => none)
    | none => none
def LvAll (K : PySem.W.Frag) (G H : Hp) : List V → List PyData → Prop
  | [], [] => True
  | v :: vs, d :: ds => Lv K G H v d ∧ LvAll K G H vs ds
  | _, _ => False
section
variable {K : PySem.W.Frag} {E : Ef} {G G' H H' G0 : Hp} {v : V} {d : PyData} {σ : St} {e e' e1 : Ev} {m : Option Addr} {r : Rs} {Q : VK}
theorem VrAll.stp (S : Stp σ G H e G' H' e') : ∀ {vs : List V} {rs : List Rs}, VrAll K E G H σ e vs rs → VrAll K E G' H' σ e' vs rs
  | [], [], _ => True.intro
  | _ :: _, _ :: _, h => ⟨h.1.stp S, VrAll.stp S h.2⟩
  | [], _ :: _, h => h.elim
  | _ :: _, [], h => h.elim
theorem Rl.lookAll (R : Rl K m E G0 G e σ H) : ∀ {vs : List V} {rs : List Rs} {ds : List PyData}, VrAll K E G H σ e vs rs → DL.lookAll e rs = some ds → LvAll K G H vs ds
  | [], [], ds, _, q => by
    cases q
    exact True.intro
  | v :: vs, r :: rs, ds, h, q => by
    simp only [DL.lookAll] at q
    cases h1 : lookR e r with
    | none =>
      rw [h1] at q
      cases q
    | some d =>
      rw [h1] at q
      cases h2 : DL.lookAll e rs with
      | none =>
        simp only [h2] at q
        cases q
      | some ds2 =>
        simp only [h2, Option.some.injEq] at q
        subst q
        exact ⟨R.look h.1 h1, R.lookAll h.2 h2⟩
  | [], _ :: _, _, h, _ => h.elim
  | _ :: _, [], _, h, _ => h.elim
theorem LvAll.len : ∀ {vs : List V} {ds : List PyData}, LvAll K G H vs ds → vs.length = ds.length
  | [], [], _ => rfl
  | _ :: _, _ :: _, h => congrArg (· + 1) (LvAll.len h.2)
  | [], _ :: _, h => h.elim
  | _ :: _, [], h => h.elim
theorem LvAll.dp (s : Same G H) : ∀ {vs : List V} {ds : List PyData}, LvAll K G H vs ds → DpAll K H vs ds
  | [], [], _ => .nil
  | _ :: _, _ :: _, h => .cons (h.1.dp s) (LvAll.dp s h.2)
  | [], _ :: _, h => h.elim
  | _ :: _, [], h => h.elim
/-- a result at the very moment -/
theorem Po.now (P : Po K m E G0 σ G H e r e Q) (R : Rl K m E G0 G e σ H) (h : Vr K E G H σ e v r) (n : Nw H v r) : Q v H := P v G H R Stp.refl h n
theorem Po.of (P : Po K m E G0 σ G H e r e' Q) (S : Stp σ G H e G' H' e1) : (∀ v, Nw H' v r → Nw H v r) → Po K m E G0 σ G' H' e1 r e' Q :=
  fun n v G2 H2 R2 S2 h2 n2 => P v G2 H2 R2 (S.trans S2) h2 (n v n2)
theorem nw_back (S : Stp σ G H e G' H' e1) : ∀ {r : Rs} (v : V), Nw H' v r → Nw H v r
  | .im _, _, _ => True.intro
  | .br _, _, _ => True.intro
  | .ac _, v, n => fun p z => by
    cases q : H p with
    | none => rfl
    | some o => exact absurd (n p z) (S.th p (by rw [q]; simp))
theorem Po.aft (P : Po K m E G0 σ G H e r e' Q) (S : Stp σ G H e G' H' e1) : Po K m E G0 σ G' H' e1 r e' Q := P.of S fun v n => nw_back S v n
end
def x_var (i : Nat) : Fe := fun e => match e[i]? with
  | some (some (.im d)) => some (.im d, e)
  | some (some (.ac _)) => some (.br i, e)
  | _ => none
def x_c (d : PyData) : Fe := fun e => some (.im d, e)
section
variable {X : Cx} {pos : Pos}
theorem ed_var (i : Nat) {x : Str} (hN : X.N[i]? = some x := by rfl) (hv : Vis X.env.scope x := by first | exact Or.inl rfl | exact Or.inr (Or.inl rfl) | exact Or.inr (Or.inr rfl)) (hd : (x == ("__debug__" : Str)) = false := by decide)
    (hcd : (x == ("__classdict__" : Str)) = false := by decide) : ED X (.Name x pos) (x_var i) := by
  refine ⟨_, pe_var hN hv hd hcd, fun m E G0 G e σ H r e' Q R q P => ?_⟩
  unfold x_var at q
  split at q
  · rename_i d h
    cases q
    obtain ⟨v, h1, h2⟩ := R.im i d h
    exact ⟨v, h1, P.now R h2 True.intro⟩
  · rename_i ds h
    cases q
    obtain ⟨p, ws, h1, _⟩ := R.ac i ds h
    exact ⟨.ref p, h1, P.now R ⟨ds, h, h1⟩ True.intro⟩
  · cases q
theorem ed_int {i j} : ED X (.Constant (.int i) j pos) (x_c (.int i)) := ⟨_, pe_int, fun m E G0 G e σ H r e' Q R q P => by
  cases q
  exact P.now R (.int i) True.intro⟩
theorem ed_bl {b j} : ED X (.Constant (.bool b) j pos) (x_c (.bool b)) := ⟨_, pe_bl, fun m E G0 G e σ H r e' Q R q P => by
  cases q
  exact P.now R (.bl b) True.intro⟩
theorem ed_non {j} : ED X (.Constant .none j pos) (x_c .none) := ⟨_, pe_non, fun m E G0 G e σ H r e' Q R q P => by
  cases q
  exact P.now R .non True.intro⟩
theorem ed_str {x j} : ED X (.Constant (.str x) j pos) (x_c (.str x)) := ⟨_, pe_str, fun m E G0 G e σ H r e' Q R q P => by
  cases q
  exact P.now R (.str x) True.intro⟩
end
/-- both sides, left to right -/
def two (fa fb : Fe) : Ev → Option (Rs × Rs × Ev) := fun e => match fa e with
  | some (ra, e1) => (match fb e1 with
    | some (rb, e2) => some (frzR ra, frzR rb, e2)
    | none => none)
  | none => none
def look2 (p : Rs × Rs × Ev) : Option (PyData × PyData × Ev) := match lookR p.2.2 p.1, lookR p.2.2 p.2.1 with
  | some a, some b => some (a, b, p.2.2)
  | _, _ => none
def x_bin (φ : PyData → PyData → Option Rs) (fa fb : Fe) : Fe := fun e => match two fa fb e with
  | some p => (match look2 p with
    | some (a, b, e2) => (match φ a b with
      | some r => some (r, e2)
      | none => none)
    | none => none)
  | none => none
section
variable {X : Cx} {a b : Expr} {fa fb : Fe} {pos : Pos}
theorem two_ok (ha : ED X a fa) (hb : ED X b fb) : ∃ ta tb, PE X a ta ∧ PE X b tb ∧ ∀ (m : Option Addr) (E : Ef) (G0 G : Hp) (e : Ev) (σ : St) (H : Hp) (ra rb : Rs) (e' : Ev) (R : V → V → Hp → Prop),
    Rl X.K m E G0 G e σ H → two fa fb e = some (ra, rb, e') → (∀ u v G' H', Rl X.K m E G0 G' e' σ H' → Stp σ G H e G' H' e' → Vr X.K E G' H' σ e' u ra → Vr X.K E G' H' σ e' v rb → R u v H') →
    ta σ H fun x H1 => tb σ H1 fun y H2 => R x y H2 := by
  obtain ⟨ta, pa, ka⟩ := ha
  obtain ⟨tb, pb, kb⟩ := hb
  refine ⟨ta, tb, pa, pb, fun m E G0 G e σ H ra rb e' R Rl0 q k => ?_⟩
  unfold two at q
  cases h1 : fa e with
  | none => simp only [h1] at q; cases q
  | some p1 =>
    obtain ⟨r1, e1⟩ := p1
    simp only [h1] at q
    cases h2 : fb e1 with
    | none => simp only [h2] at q; cases q
    | some p2 =>
      obtain ⟨r2, e2⟩ := p2
      simp only [h2, Option.some.injEq, Prod.mk.injEq] at q
      obtain ⟨rfl, rfl, rfl⟩ := q
      refine ka m E G0 G e σ H r1 e1 _ Rl0 h1 fun u G1 H1 R1 S1 V1 N1 => ?_
      obtain ⟨G1', R1', S1', s1, V1'⟩ := R1.freeze S1 V1 N1
      refine kb m E G0 G1' e1 σ H1 r2 e2 _ R1' h2 fun v G2 H2 R2 S2 V2 N2 => ?_
      obtain ⟨G2', R2', S2', s2, V2'⟩ := R2.freeze S2 V2 N2
      exact k u v G2' H2 R2' (S1'.trans S2') (V1'.stp S2') V2'
end
/-- a two-place rule by values, over data -/
def VB (K : PySem.W.Frag) (r : R2) (φ : PyData → PyData → Option Rs) : Prop :=
  ∀ (m : Option Addr) (E : Ef) (G0 G : Hp) (e : Ev) (σ : St) (H : Hp) (x y : V) (dx dy : PyData) (rr : Rs) (Q : VK), Rl K m E G0 G e σ H → Lv K G H x dx → Lv K G H y dy → φ dx dy = some rr → Po K m E G0 σ G H e rr e Q → r x y H Q
def orF {α β γ : Type} (φ ψ : α → β → Option γ) : α → β → Option γ := fun a b => match φ a b with
  | some r => some r
  | none => ψ a b
theorem VB.or {K : PySem.W.Frag} {r r' : R2} {φ ψ : PyData → PyData → Option Rs} (h : VB K r φ) (h' : VB K r' ψ) : VB K (fun x y H Q => r x y H Q ∨ r' x y H Q) (orF φ ψ) := by
  intro m E G0 G e σ H x y dx dy rr Q R lx ly q P
  unfold orF at q
  cases h1 : φ dx dy with
  | some r1 =>
    simp only [h1, Option.some.injEq] at q
    subst q
    exact .inl (h m E G0 G e σ H x y dx dy _ Q R lx ly h1 P)
  | none =>
    simp only [h1] at q
    exact .inr (h' m E G0 G e σ H x y dx dy _ Q R lx ly q P)
/-- its result is nothing new -/
theorem VB.pure {K : PySem.W.Frag} {r : R2} {φ : PyData → PyData → Option PyData}
    (h : ∀ (G H : Hp) (x y : V) (dx dy d : PyData) (Q : VK), Same G H → Lv K G H x dx → Lv K G H y dy → φ dx dy = some d → (∀ v, Dp K G v d → Q v H) → r x y H Q) : VB K r (fun a b => (φ a b).map Rs.im) := by
  intro m E G0 G e σ H x y dx dy rr Q R lx ly q P
  cases h1 : φ dx dy with
  | none => simp only [h1, Option.map_none] at q; cases q
  | some d =>
    simp only [h1, Option.map_some, Option.some.injEq] at q
    subst q
    exact h G H x y dx dy d Q R.gh lx ly h1 fun v z => P.now R z True.intro
section
variable {X : Cx} {a b : Expr} {fa fb : Fe} {pos : Pos} {op : Operator} {cop : CmpOp} {r : R2} {φ : PyData → PyData → Option Rs}
theorem bin_ok {ta tb : TE} (hv : VB X.K r φ) (k2 : ∀ (m : Option Addr) (E : Ef) (G0 G : Hp) (e : Ev) (σ : St) (H : Hp) (ra rb : Rs) (e' : Ev) (R : V → V → Hp → Prop),
    Rl X.K m E G0 G e σ H → two fa fb e = some (ra, rb, e') → (∀ u v G' H', Rl X.K m E G0 G' e' σ H' → Stp σ G H e G' H' e' → Vr X.K E G' H' σ e' u ra → Vr X.K E G' H' σ e' v rb → R u v H') → ta σ H fun x H1 => tb σ H1 fun y H2 => R x y H2)
    (m : Option Addr) (E : Ef) (G0 G : Hp) (e : Ev) (σ : St) (H : Hp) (rr : Rs) (e' : Ev) (Q : VK) (R : Rl X.K m E G0 G e σ H) (q : x_bin φ fa fb e = some (rr, e')) (P : Po X.K m E G0 σ G H e rr e' Q) : tOp r ta tb σ H Q := by
  unfold x_bin at q
  cases h1 : two fa fb e with
  | none => simp only [h1] at q; cases q
  | some p =>
    obtain ⟨ra, rb, e2⟩ := p
    simp only [h1] at q
    cases h2 : look2 (ra, rb, e2) with
    | none => simp only [h2] at q; cases q
    | some z =>
      obtain ⟨da, db, e3⟩ := z
      simp only [h2] at q
      cases h3 : φ da db with
      | none => simp only [h3] at q; cases q
      | some r3 =>
        simp only [h3, Option.some.injEq, Prod.mk.injEq] at q
        obtain ⟨rfl, rfl⟩ := q
        unfold look2 at h2
        dsimp only at h2
        cases h4 : lookR e2 ra with
        | none => simp only [h4] at h2; cases h2
        | some d1 =>
          cases h5 : lookR e2 rb with
          | none => simp only [h4, h5] at h2; cases h2
          | some d2 =>
            simp only [h4, h5, Option.some.injEq, Prod.mk.injEq] at h2
            obtain ⟨rfl, rfl, rfl⟩ := h2
            exact k2 m E G0 G e σ H ra rb e2 _ R h1 fun u v G' H' R' S' V1 V2 => hv m E G0 G' e2 σ H' u v _ _ _ Q R' (R'.look V1 h4) (R'.look V2 h5) h3 (P.aft S')
theorem ed_op (hv : VB X.K r φ) (ho : OpR X (binaryOp op) r) (ha : ED X a fa) (hb : ED X b fb) : ED X (.BinOp a op b pos) (x_bin φ fa fb) := by
  obtain ⟨ta, tb, pa, pb, k2⟩ := two_ok ha hb
  exact ⟨_, pe_op ho pa pb, bin_ok hv k2⟩
theorem ed_cmp (hv : VB X.K r φ) (ho : OpR X (compareOp cop) r) (hm : behindInMarks cop b = false) (ha : ED X a fa) (hb : ED X b fb) : ED X (.Compare a [cop] [b] pos) (x_bin φ fa fb) := by
  obtain ⟨ta, tb, pa, pb, k2⟩ := two_ok ha hb
  exact ⟨_, pe_cmpR ho pa pb hm, bin_ok hv k2⟩
end
/-- a result that is a bool, as a test -/
def t_of (f : Fe) : Ft := fun e => match f e with
  | some (.im (.bool b), e1) => some (b, e1)
  | _ => none
theorem t_of_ok {f : Fe} {e e' : Ev} {b : Bool} (q : t_of f e = some (b, e')) : f e = some (.im (.bool b), e') := by
  unfold t_of at q
  split at q
  · rename_i b1 e1 h
    cases q
    exact h
  · cases q
section
variable {X : Cx} {a b c : Expr} {fa fb fc : Fe} {pos : Pos} {cop cop' : CmpOp} {r r' : R2} {φ ψ : PyData → PyData → Option Rs}
theorem td_cmp (hv : VB X.K r φ) (ho : OpR X (compareOp cop) r) (hm : behindInMarks cop b = false) (ha : ED X a fa) (hb : ED X b fb) : TD X (.Compare a [cop] [b] pos) (t_of (x_bin φ fa fb)) := by
  obtain ⟨ta, tb, pa, pb, k2⟩ := two_ok ha hb
  refine ⟨_, pt_cmpR ho pa pb hm, fun m E G0 G e σ H k e' Q R q P => ?_⟩
  exact bin_ok hv k2 m E G0 G e σ H _ e' _ R (t_of_ok q) fun v G' H' R' S' V' _ => by
    cases V'
    exact ⟨k, rfl, P G' H' R' S'⟩
/-- an expression that gives a bool, as a test -/
theorem td_val {x : Expr} {f : Fe} (h : ED X x f) (he : ∀ whole, isTrue x X.env whole = (do let v ← whole; standAt x.pos; holding [v] (truthy v)) := by intro _; rfl) : TD X x (t_of f) := by
  obtain ⟨t, p, k⟩ := h
  refine ⟨_, pt_val p he, fun m E G0 G e σ H b e' Q R q P => ?_⟩
  exact k m E G0 G e σ H _ e' _ R (t_of_ok q) fun v G' H' R' S' V' _ => by
    cases V'
    exact ⟨b, rfl, P G' H' R' S'⟩
def t_not (f : Ft) : Ft := fun e => match f e with
  | some (b, e1) => some (!b, e1)
  | none => none
theorem td_not {f : Ft} (h : TD X a f) : TD X (.UnaryOp .Not a pos) (t_not f) := by
  obtain ⟨t, p, k⟩ := h
  refine ⟨_, pt_not p, fun m E G0 G e σ H b e' Q R q P => ?_⟩
  unfold t_not at q
  cases h1 : f e with
  | none => simp only [h1] at q; cases q
  | some z =>
    obtain ⟨b1, e1⟩ := z
    simp only [h1, Option.some.injEq, Prod.mk.injEq] at q
    obtain ⟨rfl, rfl⟩ := q
    exact k m E G0 G e σ H b1 e1 _ R h1 P
def t_and (f g : Ft) : Ft := fun e => match f e with
  | some (true, e1) => g e1
  | some (false, e1) => some (false, e1)
  | none => none
def t_or (f g : Ft) : Ft := fun e => match f e with
  | some (true, e1) => some (true, e1)
  | some (false, e1) => g e1
  | none => none
variable {f g : Ft} {rest : List Expr}
theorem wd_and1 (h : TD X a f) : WD X (.BoolOp .And [a] pos) f := by
  obtain ⟨t, p, k⟩ := h
  exact ⟨_, pw_and1 p, k⟩
theorem wd_or1 (h : TD X a f) : WD X (.BoolOp .Or [a] pos) f := by
  obtain ⟨t, p, k⟩ := h
  exact ⟨_, pw_or1 p, k⟩
theorem wd_and (h : TD X a f) (h2 : WD X (.BoolOp .And (b :: rest) pos) g) : WD X (.BoolOp .And (a :: b :: rest) pos) (t_and f g) := by
  obtain ⟨t, p, k⟩ := h
  obtain ⟨t2, p2, k2⟩ := h2
  refine ⟨_, pw_and p p2, fun m E G0 G e σ H c e' Q R q P => ?_⟩
  unfold t_and at q
  cases h1 : f e with
  | none => simp only [h1] at q; cases q
  | some z =>
    obtain ⟨b1, e1⟩ := z
    cases b1 with
    | true =>
      simp only [h1] at q
      refine k m E G0 G e σ H true e1 _ R h1 fun G' H' R' S' => ?_
      show if true = true then _ else _
      rw [if_pos rfl]
      exact k2 m E G0 G' e1 σ H' c e' Q R' q fun G2 H2 R2 S2 => P G2 H2 R2 (S'.trans S2)
    | false =>
      simp only [h1, Option.some.injEq, Prod.mk.injEq] at q
      obtain ⟨rfl, rfl⟩ := q
      refine k m E G0 G e σ H false e1 _ R h1 fun G' H' R' S' => ?_
      show if false = true then _ else _
      rw [if_neg Bool.false_ne_true]
      exact P G' H' R' S'
theorem wd_or (h : TD X a f) (h2 : WD X (.BoolOp .Or (b :: rest) pos) g) : WD X (.BoolOp .Or (a :: b :: rest) pos) (t_or f g) := by
  obtain ⟨t, p, k⟩ := h
  obtain ⟨t2, p2, k2⟩ := h2
  refine ⟨_, pw_or p p2, fun m E G0 G e σ H c e' Q R q P => ?_⟩
  unfold t_or at q
  cases h1 : f e with
  | none => simp only [h1] at q; cases q
  | some z =>
    obtain ⟨b1, e1⟩ := z
    cases b1 with
    | false =>
      simp only [h1] at q
      refine k m E G0 G e σ H false e1 _ R h1 fun G' H' R' S' => ?_
      show if false = true then _ else _
      rw [if_neg Bool.false_ne_true]
      exact k2 m E G0 G' e1 σ H' c e' Q R' q fun G2 H2 R2 S2 => P G2 H2 R2 (S'.trans S2)
    | true =>
      simp only [h1, Option.some.injEq, Prod.mk.injEq] at q
      obtain ⟨rfl, rfl⟩ := q
      refine k m E G0 G e σ H true e1 _ R h1 fun G' H' R' S' => ?_
      show if true = true then _ else _
      rw [if_pos rfl]
      exact P G' H' R' S'
theorem WD.td {x : Expr} (h : WD X x f) : TD X x f := by
  obtain ⟨t, p, k⟩ := h
  exact ⟨t, p.pt, k⟩
def x_and (f g : Fe) : Fe := fun e => match f e with
  | some (.im (.bool true), e1) => g e1
  | some (.im (.bool false), e1) => some (.im (.bool false), e1)
  | _ => none
def x_not (f : Fe) : Fe := fun e => match f e with
  | some (.im (.bool b), e1) => some (.im (.bool !b), e1)
  | _ => none
theorem ed_one {op : BoolOp} {f : Fe} (h : ED X a f) : ED X (.BoolOp op [a] pos) f := by
  obtain ⟨t, p, k⟩ := h
  exact ⟨t, pe_one p, k⟩
theorem ed_and (h : ED X a fa) (h2 : ED X (.BoolOp .And (b :: rest) pos) fb) : ED X (.BoolOp .And (a :: b :: rest) pos) (x_and fa fb) := by
  obtain ⟨t, p, k⟩ := h
  obtain ⟨t2, p2, k2⟩ := h2
  refine ⟨_, pe_and p p2, fun m E G0 G e σ H r e' Q R q P => ?_⟩
  unfold x_and at q
  split at q
  · rename_i e1 h1
    refine k m E G0 G e σ H _ e1 _ R h1 fun v G' H' R' S' V' _ => ?_
    cases V'
    refine ⟨true, rfl, ?_⟩
    rw [if_pos rfl]
    exact k2 m E G0 G' e1 σ H' r e' Q R' q (P.aft S')
  · rename_i e1 h1
    cases q
    refine k m E G0 G e σ H _ _ _ R h1 fun v G' H' R' S' V' _ => ?_
    cases V'
    refine ⟨false, rfl, ?_⟩
    rw [if_neg Bool.false_ne_true]
    exact P _ G' H' R' S' (.bl false) True.intro
  · cases q
theorem ed_not (h : ED X a fa) : ED X (.UnaryOp .Not a pos) (x_not fa) := by
  obtain ⟨t, p, k⟩ := h
  refine ⟨_, pe_not p, fun m E G0 G e σ H r e' Q R q P => ?_⟩
  unfold x_not at q
  split at q
  · rename_i b e1 h1
    cases q
    refine k m E G0 G e σ H _ _ _ R h1 fun v G' H' R' S' V' _ => ?_
    cases V'
    exact ⟨b, rfl, P _ G' H' R' S' (.bl (!b)) True.intro⟩
  · cases q
def x_if (c : Ft) (f g : Fe) : Fe := fun e => match c e with
  | some (true, e1) => f e1
  | some (false, e1) => g e1
  | none => none
theorem ed_if {cx : Expr} (hc : TD X cx f) (ha : ED X a fa) (hb : ED X b fb) : ED X (.IfExp cx a b pos) (x_if f fa fb) := by
  obtain ⟨t, p, k⟩ := hc
  obtain ⟨t1, p1, k1⟩ := ha
  obtain ⟨t2, p2, k2⟩ := hb
  refine ⟨_, pe_ifExp p p1 p2, fun m E G0 G e σ H r e' Q R q P => ?_⟩
  unfold x_if at q
  split at q
  · rename_i e1 h1
    refine k m E G0 G e σ H true e1 _ R h1 fun G' H' R' S' => ?_
    rw [if_pos rfl]
    exact k1 m E G0 G' e1 σ H' r e' Q R' q (P.aft S')
  · rename_i e1 h1
    refine k m E G0 G e σ H false e1 _ R h1 fun G' H' R' S' => ?_
    rw [if_neg Bool.false_ne_true]
    exact k2 m E G0 G' e1 σ H' r e' Q R' q (P.aft S')
  · cases q
end
end DL
namespace DL
open PySem PySem.Spec PyProof.Rows L2
def d_int2 (f : Int → Int → PyData) (c : Int → Int → Bool) : PyData → PyData → Option PyData
  | .int i, .int j => if c i j = true then some (f i j) else none
  | _, _ => none
section
variable {K : PySem.W.Frag} {G H : Hp} {v : V} {d : PyData} {ds : List PyData} {vs ws : List V}
theorem int2_ok {f : Int → Int → PyData} {c : Int → Int → Bool} {dx dy d : PyData} (h : d_int2 f c dx dy = some d) : ∃ i j, dx = .int i ∧ dy = .int j ∧ c i j = true ∧ d = f i j := by
  unfold d_int2 at h
  split at h
  · rename_i i j
    by_cases z : c i j = true
    · rw [if_pos z] at h
      cases h
      exact ⟨i, j, rfl, rfl, z, rfl⟩
    · rw [if_neg z] at h
      cases h
  · cases h
theorem vb_int {C : Int → Int → Prop} {g : Int → Int → Int} {c : Int → Int → Bool} (hc : ∀ i j, c i j = true → C i j) : VB K (rI C fun i j => .int (g i j)) (fun a b => (d_int2 (fun i j => .int (g i j)) c a b).map Rs.im) :=
  VB.pure fun G H x y dx dy d Q s lx ly h k => by
    obtain ⟨i, j, rfl, rfl, z, rfl⟩ := int2_ok h
    exact ⟨i, j, lx.int, ly.int, hc i j z, k _ (.int _)⟩
theorem vb_int0 {g : Int → Int → Int} : VB K (rI0 fun i j => .int (g i j)) (fun a b => (d_int2 (fun i j => .int (g i j)) (fun _ _ => true) a b).map Rs.im) :=
  VB.pure fun G H x y dx dy d Q s lx ly h k => by
    obtain ⟨i, j, rfl, rfl, z, rfl⟩ := int2_ok h
    exact ⟨i, j, lx.int, ly.int, k _ (.int _)⟩
theorem vb_cmp0 {g : Int → Int → Bool} : VB K (rI0 fun i j => .bl (g i j)) (fun a b => (d_int2 (fun i j => .bool (g i j)) (fun _ _ => true) a b).map Rs.im) :=
  VB.pure fun G H x y dx dy d Q s lx ly h k => by
    obtain ⟨i, j, rfl, rfl, z, rfl⟩ := int2_ok h
    exact ⟨i, j, lx.int, ly.int, k _ (.bl _)⟩
end
def p_sub : PyData → PyData → Option Rs := fun a b => (d_int2 (fun i j => .int (i - j)) (fun _ _ => true) a b).map Rs.im
def p_lt : PyData → PyData → Option Rs := fun a b => (d_int2 (fun i j => .bool (decide (i < j))) (fun _ _ => true) a b).map Rs.im
def p_gt : PyData → PyData → Option Rs := fun a b => (d_int2 (fun i j => .bool (decide (j < i))) (fun _ _ => true) a b).map Rs.im
def p_ge : PyData → PyData → Option Rs := fun a b => (d_int2 (fun i j => .bool (decide (j ≤ i))) (fun _ _ => true) a b).map Rs.im
/-- within 64 bits on one side -/
def mulC (i j : Int) : Bool := decide ((-18446744073709551616 < i ∧ i < 18446744073709551616) ∨ (-18446744073709551616 < j ∧ j < 18446744073709551616))
def mulWC (i j : Int) : Bool := decide (i.natAbs.log2 + j.natAbs.log2 < 1000000)
def p_mul : PyData → PyData → Option Rs := orF (fun a b => (d_int2 (fun i j => .int (i * j)) mulC a b).map Rs.im) (fun a b => (d_int2 (fun i j => .int (i * j)) mulWC a b).map Rs.im)
def divC (_ j : Int) : Bool := decide (0 < j ∧ j.natAbs.log2 < 9000)
def p_div : PyData → PyData → Option Rs := fun a b => (d_int2 (fun i j => .int (i / j)) divC a b).map Rs.im
def p_mod : PyData → PyData → Option Rs := fun a b => (d_int2 (fun i j => .int (i % j)) (fun _ j => decide (0 < j)) a b).map Rs.im
def powC (i j : Int) : Bool := decide (0 ≤ j ∧ j ≤ 1000000 ∧ i.natAbs < 18446744073709551616)
def p_pow : PyData → PyData → Option Rs := fun a b => (d_int2 (fun i j => .int (i ^ j.toNat)) powC a b).map Rs.im
section
variable {X : Cx}
theorem vb_sub : VB X.K (rI0 fun i j => .int (i - j)) p_sub := vb_int0
theorem vb_lt : VB X.K (rI0 fun i j => .bl (decide (i < j))) p_lt := vb_cmp0
theorem vb_gt : VB X.K (rI0 fun i j => .bl (decide (j < i))) p_gt := vb_cmp0
theorem vb_ge : VB X.K (rI0 fun i j => .bl (decide (j ≤ i))) p_ge := vb_cmp0
theorem mulC_ok {i j : Int} (h : mulC i j = true) : CMul i j := by
  have h1 := of_decide_eq_true h
  unfold CMul
  have e : (2 : Int) ^ 64 = 18446744073709551616 := by decide
  rw [e]
  exact h1
theorem vb_mul : VB X.K (fun x y H Q => (rI CMul fun i j => .int (i * j)) x y H Q ∨ (rI CMulW fun i j => .int (i * j)) x y H Q) p_mul :=
  VB.or (vb_int fun i j z => mulC_ok z) (vb_int fun i j z => (of_decide_eq_true z : i.natAbs.log2 + j.natAbs.log2 < 1000000))
theorem op_mul2 : OpR X (binaryOp .Mult) (fun x y H Q => (rI CMul fun i j => .int (i * j)) x y H Q ∨ (rI CMulW fun i j => .int (i * j)) x y H Q) := OpR.or op_mul op_mulW
theorem vb_div : VB X.K (rI CDivW fun i j => .int (i / j)) p_div := vb_int fun i j z => by
  have h := of_decide_eq_true z
  exact h
theorem vb_mod : VB X.K (rI (fun _ j => 0 < j) fun i j => .int (i % j)) p_mod := vb_int fun i j z => of_decide_eq_true z
theorem vb_pow : VB X.K (rI CPow fun i j => .int (i ^ j.toNat)) p_pow := vb_int fun i j z => by
  have h := of_decide_eq_true z
  unfold CPow
  rw [show (2 : Nat) ^ 64 = 18446744073709551616 by decide]
  exact h
end
def okLen (n : Nat) : Bool := decide (n ≤ 16777216)
theorem okLen_ok {n : Nat} (h : okLen n = true) : n ≤ sizeLine := by
  have h1 := of_decide_eq_true h
  rw [sizeLine_eq]
  exact h1
def rCatS (K : PySem.W.Frag) : R2 := fun x y H Q => ∃ a b xs zs, x = .ref a ∧ y = .ref b ∧ SqL K H a xs ∧ SqL K H b zs ∧ xs.length + zs.length ≤ sizeLine ∧ ∀ p, H p = none → Q (.ref p) (upd H p (.lst (xs ++ zs)))
theorem op_catS {X : Cx} : OpR X (binaryOp .Add) (rCatS X.K) := by
  rintro pins s σ H _ _ v u Q I rx ry ⟨a, b, xs, zs, rfl, rfl, ha, hb, small, fin⟩
  cases rx
  cases ry
  obtain ⟨us, va, ⟨⟨c1, d1, t1, sl1⟩, n1, at1, o1, _, p1⟩, z1⟩ := I.list ha
  obtain ⟨ws, vb, ⟨⟨c2, d2, t2, sl2⟩, n2, at2, o2, _, p2⟩, z2⟩ := I.list hb
  dsimp only at o1 p1 o2 p2
  subst o1 p1 o2 p2
  have la := va.length
  have lb := vb.length
  have fits : (xs ++ zs).length ≤ sizeLine := by
    rw [List.length_append]
    exact small
  have sum := PyProof.Rows.list_addW a b us.toArray ws.toArray n1 n2 d1 d2 sl1 sl2 (by simp only [List.size_toArray]; omega)
  refine concat_meets (T := "list") ⟨_, at1, rfl⟩ ⟨_, at2, rfl⟩ noFill_list_add seq_list_add F.slot_list_add F.entry_list_add (F.args_list_add_2 _ _) sum ⟨at1, at2, ?_⟩
  have laid := I.lnew (t' := s.toks) (va.append vb) fits
  rw [← List.append_toArray] at laid
  exact ⟨.ref s.heap.objs.size, _, laid, rfl, fin _ I.fresh⟩
def q_cat : PyData → PyData → Option Rs
  | .list a, .list b => if okLen (a.length + b.length) = true then some (.ac (a ++ b)) else none
  | _, _ => none
def q_catT : PyData → PyData → Option Rs
  | .tuple a, .tuple b => if okLen (a.length + b.length) = true then some (.im (.tuple (a ++ b))) else none
  | _, _ => none
def p_add : PyData → PyData → Option Rs := orF (fun a b => (d_int2 (fun i j => .int (i + j)) (fun _ _ => true) a b).map Rs.im) (orF q_cat q_catT)
section
variable {X : Cx}
theorem vb_cat {K : PySem.W.Frag} : VB K (rCatS K) q_cat := by
  intro m E G0 G e σ H x y dx dy rr Q R lx ly q P
  unfold q_cat at q
  split at q
  · rename_i a b
    by_cases z : okLen (a.length + b.length) = true
    · rw [if_pos z] at q
      cases q
      obtain ⟨p1, w1, rfl, s1, k1⟩ := lx.list R.gh
      obtain ⟨p2, w2, rfl, s2, k2⟩ := ly.list R.gh
      have z1 := okLen_ok z
      refine ⟨p1, p2, w1, w2, rfl, rfl, s1, s2, by rw [dpAll_len k1, dpAll_len k2]; exact z1, fun p hp => ?_⟩
      obtain ⟨R', S', V', N'⟩ := R.newL hp (dpAll_app k1 k2)
      exact P _ _ _ R' S' V' N'
    · rw [if_neg z] at q
      cases q
  · cases q
theorem vb_catT {K : PySem.W.Frag} : VB K (rCatA K) q_catT := by
  intro m E G0 G e σ H x y dx dy rr Q R lx ly q P
  unfold q_catT at q
  split at q
  · rename_i a b
    by_cases z : okLen (a.length + b.length) = true
    · rw [if_pos z] at q
      cases q
      obtain ⟨p1, w1, e1, s1, k1⟩ := lx.tup R.gh
      obtain ⟨p2, w2, e2, s2, k2⟩ := ly.tup R.gh
      have z1 := okLen_ok z
      refine ⟨p1, p2, w1, w2, e1, e2, s1, s2, by rw [dpAll_len k1, dpAll_len k2]; exact z1, fun h => ?_, fun h1 h2 => ?_, fun _ _ p hp => ?_⟩
      · have ea : a = [] := by
          subst h
          cases k1
          rfl
        subst ea
        rcases ly with ly | ⟨_, _, _, _, z, _⟩
        · rw [← e2]
          exact P.now R ly True.intro
        · cases z
      · have eb : b = [] := by
          subst h2
          cases k2
          rfl
        subst eb
        rcases lx with lx | ⟨_, _, _, _, z, _⟩
        · rw [← e1, List.append_nil] at *
          exact P.now R lx True.intro
        · cases z
      · obtain ⟨R', S', D'⟩ := R.newT hp (dpAll_app k1 k2)
        exact P _ _ _ R' S' D' True.intro
    · rw [if_neg z] at q
      cases q
  · cases q
theorem vb_add : VB X.K (fun x y H Q => (rI0 fun i j => .int (i + j)) x y H Q ∨ (rCatS X.K x y H Q ∨ rCatA X.K x y H Q)) p_add := VB.or vb_int0 (VB.or vb_cat vb_catT)
theorem op_add3 : OpR X (binaryOp .Add) (fun x y H Q => (rI0 fun i j => .int (i + j)) x y H Q ∨ (rCatS X.K x y H Q ∨ rCatA X.K x y H Q)) := OpR.or op_add (OpR.or op_catS op_catA)
end
def p_eq : PyData → PyData → Option Rs := fun a b => if (SeqAt.shaped a && SeqAt.shaped b) = true then some (.im (.bool (PyData.eqv a b))) else none
def p_ne : PyData → PyData → Option Rs := fun a b => if (SeqAt.shaped a && SeqAt.shaped b) = true then some (.im (.bool (!PyData.eqv a b))) else none
def flatD : PyData → Bool
  | .none => true
  | .bool _ => true
  | .int _ => true
  | .str _ => true
  | _ => false
def inD (x : PyData) (ds : List PyData) : Bool := ds.any fun y => PyData.eqv y x
def seqD : PyData → Option (List PyData)
  | .list ds => some ds
  | .tuple ds => some ds
  | _ => none
def p_inB (neg : Bool) : PyData → PyData → Option Rs := fun x y => match seqD y with
  | some ds => if (flatD x && ds.all flatD) = true then some (.im (.bool (if neg = true then !inD x ds else inD x ds))) else none
  | none => none
abbrev p_notin := p_inB true
def p_isN (neg : Bool) : PyData → PyData → Option PyData
  | .none, .none => some (.bool (!neg))
  | .list _, .none => some (.bool neg)
  | .tuple _, .none => some (.bool neg)
  | .bool _, .none => some (.bool neg)
  | .int _, .none => some (.bool neg)
  | .str _, .none => some (.bool neg)
  | _, _ => none
def p_isB (neg : Bool) : PyData → PyData → Option PyData
  | .bool a, .bool b => some (.bool (if neg = true then !(decide (a = b)) else decide (a = b)))
  | _, _ => none
def p_is : PyData → PyData → Option Rs := orF (fun a b => (p_isN false a b).map Rs.im) (fun a b => (p_isB false a b).map Rs.im)
def p_isnot : PyData → PyData → Option Rs := orF (fun a b => (p_isN true a b).map Rs.im) (fun a b => (p_isB true a b).map Rs.im)
section
variable {X : Cx} {K : PySem.W.Frag}
theorem shp {a b : PyData} (h : (SeqAt.shaped a && SeqAt.shaped b) = true) : SeqAt.shaped a = true ∧ SeqAt.shaped b = true := Bool.and_eq_true_iff.mp h
theorem shp_no {d : PyData} (h : SeqAt.shaped d = true) : noDict d = true := by
  unfold SeqAt.shaped at h
  exact canNo (Bool.and_eq_true_iff.mp h).1
theorem vb_eq : VB K (rEqD K) p_eq := by
  intro m E G0 G e σ H x y dx dy rr Q R lx ly q P
  unfold p_eq at q
  by_cases z : (SeqAt.shaped dx && SeqAt.shaped dy) = true
  · rw [if_pos z] at q
    cases q
    exact ⟨dx, dy, (lx.dp R.gh).lib (shp_no (shp z).1), (ly.dp R.gh).lib (shp_no (shp z).2), (shp z).1, (shp z).2, P.now R (.bl _) True.intro⟩
  · rw [if_neg z] at q
    cases q
theorem vb_ne : VB K (rNeD K) p_ne := by
  intro m E G0 G e σ H x y dx dy rr Q R lx ly q P
  unfold p_ne at q
  by_cases z : (SeqAt.shaped dx && SeqAt.shaped dy) = true
  · rw [if_pos z] at q
    cases q
    exact ⟨dx, dy, (lx.dp R.gh).lib (shp_no (shp z).1), (ly.dp R.gh).lib (shp_no (shp z).2), (shp z).1, (shp z).2, P.now R (.bl _) True.intro⟩
  · rw [if_neg z] at q
    cases q
theorem dp_flat {G : Hp} {v : V} {d : PyData} (h : Dp K G v d) (f : flatD d = true) : flatV v = true := by
  cases h with
  | lst _ _ => cases f
  | tup _ _ => cases f
  | ins _ _ _ _ => cases f
  | dct _ _ _ => cases f
  | _ => rfl
theorem dp_eqV {G : Hp} {u v : V} {c d : PyData} (h1 : Dp K G u c) (h2 : Dp K G v d) (f1 : flatD c = true) (f2 : flatD d = true) : eqV u v = PyData.eqv c d := by
  cases h1 <;> cases h2 <;> first
    | (cases f1; done)
    | (cases f2; done)
    | rfl
    | (simp only [eqV, PyData.eqv]; done)
theorem flat_all {G : Hp} : ∀ {vs : List V} {ds : List PyData}, DpAll K G vs ds → ds.all flatD = true → vs.all flatV = true
  | _, _, .nil, _ => rfl
  | _, _, .cons h t, f => by
    rw [List.all_cons, Bool.and_eq_true] at f ⊢
    exact ⟨dp_flat h f.1, flat_all t f.2⟩
theorem in_all {G : Hp} {v : V} {d : PyData} (h : Dp K G v d) (f : flatD d = true) : ∀ {vs : List V} {ds : List PyData}, DpAll K G vs ds → ds.all flatD = true → inV v vs = inD d ds
  | _, _, .nil, _ => rfl
  | _, _, .cons h2 t, f2 => by
    rw [List.all_cons, Bool.and_eq_true] at f2
    have e := in_all h f t f2.2
    unfold inV inD at e ⊢
    rw [List.any_cons, List.any_cons, dp_eqV h2 h f2.1 f, e]
theorem vb_inB {neg : Bool} : VB K (rIn K neg) (p_inB neg) := by
  intro m E G0 G e σ H x y dx dy rr Q R lx ly q P
  unfold p_inB at q
  cases h : seqD dy with
  | none => simp only [h] at q; cases q
  | some ds =>
    simp only [h] at q
    by_cases z : (flatD dx && ds.all flatD) = true
    · rw [if_pos z] at q
      cases q
      obtain ⟨f1, f2⟩ := Bool.and_eq_true_iff.mp z
      have hx : Dp K G x dx := by
        rcases lx with lx | ⟨_, _, _, _, e, _⟩
        · exact lx
        · subst e
          cases f1
      have hs : ∃ p ws, y = .ref p ∧ (SqL K H p ws ∨ SqT K H p ws) ∧ DpAll K G ws ds := by
        unfold seqD at h
        split at h
        · cases h
          obtain ⟨p, ws, e, s1, k⟩ := ly.list R.gh
          exact ⟨p, ws, e, .inl s1, k⟩
        · cases h
          obtain ⟨p, ws, e, s1, k⟩ := ly.tup R.gh
          exact ⟨p, ws, e, .inr s1, k⟩
        · cases h
      obtain ⟨p, ws, e, s1, k⟩ := hs
      have ei := in_all hx f1 k f2
      refine ⟨p, ws, e, s1, dp_flat hx f1, flat_all k f2, ?_⟩
      rw [ei]
      cases neg with
      | true => exact P.now R (.bl _) True.intro
      | false => exact P.now R (.bl _) True.intro
    · rw [if_neg z] at q
      cases q
theorem lv_non {G H : Hp} {v : V} {d : PyData} (h : Lv K G H v d) : d = .none ∨ v ≠ .non := by
  rcases h with h | ⟨p, ws, ds, rfl, rfl, _⟩
  · cases h with
    | non => exact .inl rfl
    | _ => exact .inr fun z => by cases z
  · exact .inr fun z => by cases z
theorem isN_ok {neg : Bool} {a b d : PyData} {G H : Hp} {x y : V} (h : p_isN neg a b = some d) (lx : Lv K G H x a) (ly : Lv K G H y b) : y = .non ∧ d = .bool (if neg = true then !decide (x = .non) else decide (x = .non)) := by
  have hx := lv_non lx
  unfold p_isN at h
  split at h
  · have e := lx.none
    cases h
    subst e
    refine ⟨ly.none, ?_⟩
    cases neg <;> rfl
  all_goals first
    | (cases h
       refine ⟨ly.none, ?_⟩
       have z : x ≠ .non := by
         rcases hx with z | z
         · cases z
         · exact z
       rw [decide_eq_false z]
       cases neg <;> rfl)
    | (cases h; done)
theorem vb_is : VB K (fun x y H Q => (y = .non ∧ Q (.bl (decide (x = .non))) H) ∨ rIsB x y H Q) p_is :=
  VB.or (VB.pure fun G H x y dx dy d Q s lx ly h k => by
      obtain ⟨e1, rfl⟩ := isN_ok h lx ly
      exact ⟨e1, k _ (.bl _)⟩)
    (VB.pure fun G H x y dx dy d Q s lx ly h k => by
      unfold p_isB at h
      split at h
      · cases h
        exact ⟨_, _, lx.bool, ly.bool, k _ (.bl _)⟩
      · cases h)
theorem vb_isnot : VB K (fun x y H Q => (y = .non ∧ Q (.bl (!decide (x = .non))) H) ∨ rNotB x y H Q) p_isnot :=
  VB.or (VB.pure fun G H x y dx dy d Q s lx ly h k => by
      obtain ⟨e1, rfl⟩ := isN_ok h lx ly
      exact ⟨e1, k _ (.bl _)⟩)
    (VB.pure fun G H x y dx dy d Q s lx ly h k => by
      unfold p_isB at h
      split at h
      · cases h
        exact ⟨_, _, lx.bool, ly.bool, k _ (.bl _)⟩
      · cases h)
theorem op_is2 : OpR X (compareOp .Is) (fun x y H Q => (y = .non ∧ Q (.bl (decide (x = .non))) H) ∨ rIsB x y H Q) := OpR.or op_isN op_isBl
theorem op_isnot2 : OpR X (compareOp .IsNot) (fun x y H Q => (y = .non ∧ Q (.bl (!decide (x = .non))) H) ∨ rNotB x y H Q) := OpR.or op_notN op_notBl
end
end DL
namespace DL
open PySem PySem.Spec PyProof.Rows L2
def a_nil : Fa := fun e => some ([], e)
def a_cons (fa : Fe) (fr : Fa) : Fa := fun e => match fa e with
  | some (r, e1) => (match fr e1 with
    | some (rs, e2) => some (frzR r :: rs, e2)
    | none => none)
  | none => none
section
variable {X : Cx} {a : Expr} {es : List Expr} {fa : Fe} {fr : Fa} {pos : Pos}
theorem ad_nil : AD X [] a_nil := ⟨_, pa_nil, fun m E G0 G e σ H rs e' Q R q P => by
  cases q
  exact P [] G H R Stp.refl True.intro⟩
theorem ad_cons (ha : ED X a fa) (hr : AD X es fr) (hs : starEach (a :: es) X.env = (false, eval a X.env) :: starEach es X.env := by rfl) : AD X (a :: es) (a_cons fa fr) := by
  obtain ⟨t, p, k⟩ := ha
  obtain ⟨t2, p2, k2⟩ := hr
  refine ⟨_, pa_cons p p2 hs, fun m E G0 G e σ H rs e' Q R q P => ?_⟩
  unfold a_cons at q
  cases h1 : fa e with
  | none => simp only [h1] at q; cases q
  | some z =>
    obtain ⟨r, e1⟩ := z
    simp only [h1] at q
    cases h2 : fr e1 with
    | none => simp only [h2] at q; cases q
    | some z2 =>
      obtain ⟨rs2, e2⟩ := z2
      simp only [h2, Option.some.injEq, Prod.mk.injEq] at q
      obtain ⟨rfl, rfl⟩ := q
      refine k m E G0 G e σ H r e1 _ R h1 fun v G1 H1 R1 S1 V1 N1 => ?_
      obtain ⟨G1', R1', S1', s1, V1'⟩ := R1.freeze S1 V1 N1
      refine k2 m E G0 G1' e1 σ H1 rs2 e2 _ R1' h2 fun vs G2 H2 R2 S2 V2 => ?_
      exact P (v :: vs) G2 H2 R2 (S1'.trans S2) ⟨V1'.stp S2, V2⟩
end
/-- all arguments, as data -/
def argsD (fa : Fa) : Ev → Option (List PyData × Ev) := fun e => match fa e with
  | some (rs, e1) => (match lookAll e1 rs with
    | some ds => some (ds, e1)
    | none => none)
  | none => none
theorem argsD_ok {fa : Fa} {e e' : Ev} {ds : List PyData} (q : argsD fa e = some (ds, e')) : ∃ rs, fa e = some (rs, e') ∧ lookAll e' rs = some ds := by
  unfold argsD at q
  split at q
  · rename_i rs e1 h1
    split at q
    · rename_i ds2 h2
      cases q
      exact ⟨rs, h1, h2⟩
    · cases q
  · cases q
/-- every one of them is frozen data (no list of one's own) -/
def imR : Rs → Option PyData
  | .im d => some d
  | _ => none
def imAll : List Rs → Option (List PyData)
  | [] => some []
  | r :: rs => match imR r with
    | some d => (match imAll rs with
      | some ds => some (d :: ds)
      | none => none)
    | none => none
theorem vr_imAll {K : PySem.W.Frag} {E : Ef} {G H : Hp} {σ : St} {e : Ev} : ∀ {vs : List V} {rs : List Rs} {ds : List PyData}, VrAll K E G H σ e vs rs → imAll rs = some ds → DpAll K G vs ds
  | [], [], ds, _, q => by
    cases q
    exact .nil
  | v :: vs, r :: rs, ds, h, q => by
    simp only [imAll] at q
    cases r with
    | im d =>
      simp only [imR] at q
      cases h2 : imAll rs with
      | none => simp only [h2] at q; cases q
      | some ds2 =>
        simp only [h2, Option.some.injEq] at q
        subst q
        exact .cons h.1 (vr_imAll h.2 h2)
    | ac _ => simp only [imR] at q; cases q
    | br _ => simp only [imR] at q; cases q
  | [], _ :: _, _, h, _ => h.elim
  | _ :: _, [], _, h, _ => h.elim
def argsI (fa : Fa) : Ev → Option (List PyData × Ev) := fun e => match fa e with
  | some (rs, e1) => (match imAll rs with
    | some ds => some (ds, e1)
    | none => none)
  | none => none
theorem argsI_ok {fa : Fa} {e e' : Ev} {ds : List PyData} (q : argsI fa e = some (ds, e')) : ∃ rs, fa e = some (rs, e') ∧ imAll rs = some ds := by
  unfold argsI at q
  split at q
  · rename_i rs e1 h1
    split at q
    · rename_i ds2 h2
      cases q
      exact ⟨rs, h1, h2⟩
    · cases q
  · cases q
def x_tup (fa : Fa) : Fe := fun e => match argsI fa e with
  | some (ds, e1) => if okLen ds.length = true then some (.im (.tuple ds), e1) else none
  | none => none
def x_lst (fa : Fa) : Fe := fun e => match argsI fa e with
  | some (ds, e1) => if okLen ds.length = true then some (.ac ds, e1) else none
  | none => none
section
variable {X : Cx} {es : List Expr} {fa : Fa} {pos : Pos}
theorem ed_tup {n} (h : AD X es fa) : ED X (.Tuple es n pos) (x_tup fa) := by
  obtain ⟨t, p, k⟩ := h
  refine ⟨_, pe_tup p, fun m E G0 G e σ H r e' Q R q P => ?_⟩
  unfold x_tup at q
  cases h1 : argsI fa e with
  | none => simp only [h1] at q; cases q
  | some z =>
    obtain ⟨ds, e1⟩ := z
    simp only [h1] at q
    by_cases z : okLen ds.length = true
    · rw [if_pos z] at q
      simp only [Option.some.injEq, Prod.mk.injEq] at q
      obtain ⟨rfl, rfl⟩ := q
      obtain ⟨rs, q1, q2⟩ := argsI_ok h1
      refine k m E G0 G e σ H rs e1 _ R q1 fun vs G1 H1 R1 S1 V1 => ?_
      have dv := vr_imAll V1 q2
      refine ⟨by rw [dpAll_len dv]; exact okLen_ok z, fun p hp => ?_⟩
      obtain ⟨R', S', D'⟩ := R1.newT hp dv
      exact P _ _ _ R' (S1.trans S') D' True.intro
    · rw [if_neg z] at q
      cases q
theorem ed_lst (h : AD X es fa) : ED X (.List es pos) (x_lst fa) := by
  obtain ⟨t, p, k⟩ := h
  refine ⟨_, pe_lst p, fun m E G0 G e σ H r e' Q R q P => ?_⟩
  unfold x_lst at q
  cases h1 : argsI fa e with
  | none => simp only [h1] at q; cases q
  | some z =>
    obtain ⟨ds, e1⟩ := z
    simp only [h1] at q
    by_cases z : okLen ds.length = true
    · rw [if_pos z] at q
      simp only [Option.some.injEq, Prod.mk.injEq] at q
      obtain ⟨rfl, rfl⟩ := q
      obtain ⟨rs, q1, q2⟩ := argsI_ok h1
      refine k m E G0 G e σ H rs e1 _ R q1 fun vs G1 H1 R1 S1 V1 => ?_
      have dv := vr_imAll V1 q2
      refine ⟨by rw [dpAll_len dv]; exact okLen_ok z, fun p hp => ?_⟩
      obtain ⟨R', S', V', N'⟩ := R1.newL hp dv
      exact P _ _ _ R' (S1.trans S') V' (nw_back S1 _ N')
    · rw [if_neg z] at q
      cases q
end
def p_ix : PyData → PyData → Option Rs := fun a b => match seqD a, b with
  | some ds, .int i => (atI ds i).map Rs.im
  | _, _ => none
theorem dpAll_atI {K : PySem.W.Frag} {G : Hp} {vs : List V} {ds : List PyData} {i : Int} {d : PyData} (h : DpAll K G vs ds) (q : atI ds i = some d) : ∃ v, atI vs i = some v ∧ Dp K G v d := by
  have e : atI vs i = (ixN vs.length i).bind fun j => vs[j]? := rfl
  rw [e, dpAll_len h]
  have q : ((ixN ds.length i).bind fun j => ds[j]?) = some d := q
  cases z : ixN ds.length i with
  | none => rw [z] at q; cases q
  | some j =>
    rw [z] at q
    exact dpAll_get h q
def rIx2 (K : PySem.W.Frag) : R2 := fun x y H Q => rIxL K x y H Q ∨ rIxT K x y H Q
theorem vb_ix {K : PySem.W.Frag} : VB K (rIx2 K) p_ix := by
  intro m E G0 G e σ H x y dx dy rr Q R lx ly q P
  unfold p_ix at q
  split at q
  · rename_i ds i h
    cases z : atI ds i with
    | none => rw [z] at q; cases q
    | some d =>
      rw [z] at q
      cases q
      unfold seqD at h
      split at h
      · cases h
        obtain ⟨p, ws, ex, s1, k⟩ := lx.list R.gh
        obtain ⟨v, e1, e2⟩ := dpAll_atI k z
        exact .inl ⟨p, ws, i, v, ex, ly.int, s1, e1, P.now R e2 True.intro⟩
      · cases h
        obtain ⟨p, ws, ex, s1, k⟩ := lx.tup R.gh
        obtain ⟨v, e1, e2⟩ := dpAll_atI k z
        exact .inr ⟨p, ws, i, v, ex, ly.int, s1, e1, P.now R e2 True.intro⟩
      · cases h
  · cases q
abbrev x_ix (fa fb : Fe) : Fe := x_bin p_ix fa fb
section
variable {X : Cx} {a b : Expr} {fa fb : Fe} {pos : Pos}
theorem ed_ix (ha : ED X a fa) (hb : ED X b fb) (hs : PlainIx b := by intro _ _; rfl) : ED X (.Subscript a b pos) (x_ix fa fb) := by
  obtain ⟨ta, tb, pa, pb, k2⟩ := two_ok ha hb
  exact ⟨_, pe_ix (ix_list.or ix_tup) pa pb hs, bin_ok (r := rIx2 X.K) vb_ix k2⟩
end
abbrev Fo := Ev → Option (Option Int × Ev)
structure OD (X : Cx) (o : Option Expr) (f : Fo) : Prop where
  ex : ∃ t, PO X o t ∧ ∀ (m : Option Addr) (E : Ef) (G0 G : Hp) (e : Ev) (σ : St) (H : Hp) (i : Option Int) (e' : Ev) (Q : Option Int → Hp → Prop),
    Rl X.K m E G0 G e σ H → f e = some (i, e') → (∀ G' H', Rl X.K m E G0 G' e' σ H' → Stp σ G H e G' H' e' → Q i H') → t σ H Q
def o_no : Fo := fun e => some (none, e)
def o_at (f : Fe) : Fo := fun e => match f e with
  | some (.im (.int i), e1) => some (some i, e1)
  | _ => none
def cutD {α : Type} (ds : List α) (lo hi : Option Int) : List α := (ds.drop (HT.sIx ds.length 0 lo)).take (HT.sIx ds.length ds.length hi - HT.sIx ds.length 0 lo)
def sliced (lo hi : Option Int) : PyData → Option Rs
  | .list ds => some (.ac (cutD ds lo hi))
  | .tuple ds => some (.im (.tuple (cutD ds lo hi)))
  | _ => none
def x_sl (fa : Fe) (fl fh : Fo) : Fe := fun e => match fa e with
  | some (r, e1) => (match fl e1 with
    | some (lo, e2) => (match fh e2 with
      | some (hi, e3) => (match lookR e3 (frzR r) with
        | some d => (match sliced lo hi d with
          | some r2 => some (r2, e3)
          | none => none)
        | none => none)
      | none => none)
    | none => none)
  | none => none
theorem dpAll_cut {K : PySem.W.Frag} {G : Hp} {vs : List V} {ds : List PyData} {lo hi : Option Int} (h : DpAll K G vs ds) : DpAll K G (cutV vs lo hi) (cutD ds lo hi) := by
  unfold cutV cutD
  rw [dpAll_len h]
  exact dpAll_take _ (dpAll_drop _ h)
theorem cutD_all {α : Type} {ds : List α} {lo hi : Option Int} (h1 : HT.sIx ds.length 0 lo = 0) (h2 : HT.sIx ds.length ds.length hi = ds.length) : cutD ds lo hi = ds := by
  unfold cutD
  rw [h1, h2]
  exact List.take_length
section
variable {X : Cx} {a b : Expr} {fa fb : Fe} {fl fh : Fo} {lo hi : Option Expr} {pos p2 : Pos}
theorem od_no : OD X none o_no := ⟨_, po_none, fun m E G0 G e σ H i e' Q R q P => by
  cases q
  exact P G H R Stp.refl⟩
theorem od_at (h : ED X a fa) : OD X (some a) (o_at fa) := by
  obtain ⟨t, p, k⟩ := h
  refine ⟨_, po_some p, fun m E G0 G e σ H i e' Q R q P => ?_⟩
  unfold o_at at q
  split at q
  · rename_i j e1 h1
    simp only [Option.some.injEq, Prod.mk.injEq] at q
    obtain ⟨rfl, rfl⟩ := q
    refine k m E G0 G e σ H _ e1 _ R h1 fun v G1 H1 R1 S1 V1 _ => ?_
    cases V1
    exact ⟨j, rfl, P G1 H1 R1 S1⟩
  · cases q
theorem ed_sl (ha : ED X a fa) (hl : OD X lo fl) (hh : OD X hi fh) : ED X (.Subscript a (.Slice lo hi none p2) pos) (x_sl fa fl fh) := by
  obtain ⟨t, p, k⟩ := ha
  obtain ⟨t1, q1, k1⟩ := hl
  obtain ⟨t2, q2, k2⟩ := hh
  refine ⟨_, pe_slice (sl_list.or sl_tupA) p q1 q2, fun m E G0 G e σ H r e' Q R q P => ?_⟩
  unfold x_sl at q
  cases h1 : fa e with
  | none => simp only [h1] at q; cases q
  | some z =>
    obtain ⟨r0, e1⟩ := z
    simp only [h1] at q
    cases h2 : fl e1 with
    | none => simp only [h2] at q; cases q
    | some z =>
      obtain ⟨i, e2⟩ := z
      simp only [h2] at q
      cases h3 : fh e2 with
      | none => simp only [h3] at q; cases q
      | some z =>
        obtain ⟨j, e3⟩ := z
        simp only [h3] at q
        cases h4 : lookR e3 (frzR r0) with
        | none => simp only [h4] at q; cases q
        | some d =>
          simp only [h4] at q
          cases h5 : sliced i j d with
          | none => simp only [h5] at q; cases q
          | some r2 =>
            simp only [h5, Option.some.injEq, Prod.mk.injEq] at q
            obtain ⟨rfl, rfl⟩ := q
            refine k m E G0 G e σ H r0 e1 _ R h1 fun v G1 H1 R1 S1 V1 N1 => ?_
            obtain ⟨G1', R1', S1', s1, V1'⟩ := R1.freeze S1 V1 N1
            refine k1 m E G0 G1' e1 σ H1 i e2 _ R1' h2 fun G2 H2 R2 S2 => ?_
            refine k2 m E G0 G2 e2 σ H2 j e3 _ R2 h3 fun G3 H3 R3 S3 => ?_
            have L := R3.look ((V1'.stp S2).stp S3) h4
            have S := S1'.trans (S2.trans S3)
            unfold sliced at h5
            split at h5
            · cases h5
              obtain ⟨p', ws, ex, s2, dk⟩ := L.list R3.gh
              refine .inl ⟨p', ws, ex, s2, fun p hp => ?_⟩
              obtain ⟨R', S', V', N'⟩ := R3.newL hp (dpAll_cut dk)
              exact P _ _ _ R' (S.trans S') V' (nw_back S _ N')
            · cases h5
              rename_i ds
              obtain ⟨p', ws, ex, s2, dk⟩ := L.tup R3.gh
              refine .inr ⟨p', ws, ex, s2, fun hw => ?_, fun _ p hp => ?_⟩
              · rw [dpAll_len dk] at hw
                rw [cutD_all hw.1 hw.2] at P
                rcases L with L | ⟨_, _, _, _, z, _⟩
                · rw [← ex]
                  exact P _ _ _ R3 S L True.intro
                · cases z
              · obtain ⟨R', S', D'⟩ := R3.newT hp (dpAll_cut dk)
                exact P _ _ _ R' (S.trans S') D' True.intro
            · cases h5
/-- -n -/
def x_neg (fa : Fe) : Fe := fun e => match fa e with
  | some (.im (.int i), e1) => some (.im (.int (-i)), e1)
  | _ => none
theorem ed_neg (ha : ED X a fa) : ED X (.UnaryOp .USub a pos) (x_neg fa) := by
  obtain ⟨t, p, k⟩ := ha
  refine ⟨_, pe_un un_neg p, fun m E G0 G e σ H r e' Q R q P => ?_⟩
  unfold x_neg at q
  split at q
  · rename_i i e1 h1
    cases q
    refine k m E G0 G e σ H _ _ _ R h1 fun v G1 H1 R1 S1 V1 _ => ?_
    cases V1
    exact ⟨i, rfl, P _ _ _ R1 S1 (.int _) True.intro⟩
  · cases q
end
/-- an n-place rule by values, over data -/
def VC (K : PySem.W.Frag) (r : List V → Hp → VK → Prop) (φ : List PyData → Option Rs) : Prop :=
  ∀ (m : Option Addr) (E : Ef) (G0 G : Hp) (e : Ev) (σ : St) (H : Hp) (vs : List V) (ds : List PyData) (rr : Rs) (Q : VK), Rl K m E G0 G e σ H → LvAll K G H vs ds → φ ds = some rr → Po K m E G0 σ G H e rr e Q → r vs H Q
def orC {α γ : Type} (φ ψ : α → Option γ) : α → Option γ := fun a => match φ a with
  | some r => some r
  | none => ψ a
theorem VC.or {K : PySem.W.Frag} {r r' : List V → Hp → VK → Prop} {φ ψ : List PyData → Option Rs} (h : VC K r φ) (h' : VC K r' ψ) : VC K (fun vs H Q => r vs H Q ∨ r' vs H Q) (orC φ ψ) := by
  intro m E G0 G e σ H vs ds rr Q R l q P
  unfold orC at q
  cases h1 : φ ds with
  | some r1 =>
    simp only [h1, Option.some.injEq] at q
    subst q
    exact .inl (h m E G0 G e σ H vs ds _ Q R l h1 P)
  | none =>
    simp only [h1] at q
    exact .inr (h' m E G0 G e σ H vs ds rr Q R l q P)
def x_cb (φ : List PyData → Option Rs) (fa : Fa) : Fe := fun e => match argsD fa e with
  | some (ds, e1) => (match φ ds with
    | some r => some (r, e1)
    | none => none)
  | none => none
section
variable {X : Cx} {a : Expr} {es : List Expr} {fa : Fa} {pos p : Pos} {x : Str} {id T : String} {r : List V → Hp → VK → Prop} {φ : List PyData → Option Rs}
theorem cb_ok {t : TA} (hv : VC X.K r φ) (k : ∀ (m : Option Addr) (E : Ef) (G0 G : Hp) (e : Ev) (σ : St) (H : Hp) (rs : List Rs) (e' : Ev) (Q : List V → Hp → Prop),
    Rl X.K m E G0 G e σ H → fa e = some (rs, e') → (∀ vs G' H', Rl X.K m E G0 G' e' σ H' → Stp σ G H e G' H' e' → VrAll X.K E G' H' σ e' vs rs → Q vs H') → t σ H Q)
    (m : Option Addr) (E : Ef) (G0 G : Hp) (e : Ev) (σ : St) (H : Hp) (rr : Rs) (e' : Ev) (Q : VK) (R : Rl X.K m E G0 G e σ H) (q : x_cb φ fa e = some (rr, e')) (P : Po X.K m E G0 σ G H e rr e' Q) : tCB r t σ H Q := by
  unfold x_cb at q
  cases h1 : argsD fa e with
  | none => simp only [h1] at q; cases q
  | some z =>
    obtain ⟨ds, e1⟩ := z
    simp only [h1] at q
    cases h2 : φ ds with
    | none => simp only [h2] at q; cases q
    | some r2 =>
      simp only [h2, Option.some.injEq, Prod.mk.injEq] at q
      obtain ⟨rfl, rfl⟩ := q
      obtain ⟨rs, q1, q2⟩ := argsD_ok h1
      exact k m E G0 G e σ H rs e1 _ R q1 fun vs G1 H1 R1 S1 V1 => hv m E G0 G1 e1 σ H1 vs ds _ Q R1 (R1.lookAll V1 q2) h2 (P.aft S1)
theorem ed_cb (hv : VC X.K r φ) (hc : CallR X (.builtin id) r) (hm : X.mg x = none) (h : AD X (a :: es) fa) (hb : bootBuiltins x = some (.builtin id) := by decide +kernel) (hg : Gl X x := by rfl) (hn : x ≠ "__name__" := by decide) (hdb : (x == ("__debug__" : Str)) = false := by decide)
    (he : starEach (a :: es) X.env = (false, eval a X.env) :: starEach es X.env := by rfl) (hpl : (backTo pos (starEach es X.env)).any (·.1) = false := by rfl) : ED X (.Call (.Name x p) (a :: es) [] pos) (x_cb φ fa) := by
  obtain ⟨t, pa, k⟩ := h
  exact ⟨_, pe_callB hc hg hm hb pa hn hdb he hpl, cb_ok hv k⟩
theorem ed_ct (hv : VC X.K r φ) (hc : CallR X (.type T) r) (hm : X.mg x = none) (h : AD X (a :: es) fa) (hb : bootBuiltins x = some (.type T) := by decide +kernel) (hg : Gl X x := by rfl) (hn : x ≠ "__name__" := by decide) (hdb : (x == ("__debug__" : Str)) = false := by decide)
    (he : starEach (a :: es) X.env = (false, eval a X.env) :: starEach es X.env := by rfl) (hpl : (backTo pos (starEach es X.env)).any (·.1) = false := by rfl) : ED X (.Call (.Name x p) (a :: es) [] pos) (x_cb φ fa) := by
  obtain ⟨t, pa, k⟩ := h
  exact ⟨_, pe_callTy hc hg hm hb pa hn hdb he hpl, cb_ok hv k⟩
end
theorem lv1 {K : PySem.W.Frag} {G H : Hp} {vs : List V} {d : PyData} (h : LvAll K G H vs [d]) : ∃ v, vs = [v] ∧ Lv K G H v d := by
  match vs, h with
  | [v], h => exact ⟨v, rfl, h.1⟩
  | _ :: _ :: _, h => exact h.2.elim
def c_len : List PyData → Option Rs
  | [.list ds] => some (.im (.int ds.length))
  | [.tuple ds] => some (.im (.int ds.length))
  | _ => none
def c_abs : List PyData → Option Rs
  | [.int i] => some (.im (.int (if i < 0 then -i else i)))
  | _ => none
def c_int : List PyData → Option Rs
  | [.int i] => some (.im (.int i))
  | [.bool k] => some (.im (.int (if k = true then 1 else 0)))
  | _ => none
def c_list : List PyData → Option Rs
  | [.list ds] => some (.ac ds)
  | [.tuple ds] => some (.ac ds)
  | _ => none
def c_tuple : List PyData → Option Rs
  | [.list ds] => some (.im (.tuple ds))
  | [.tuple ds] => some (.im (.tuple ds))
  | _ => none
section
variable {K : PySem.W.Frag} {X : Cx}
theorem vc_len : VC K (fun xs H Q => ∃ p ys, xs = [.ref p] ∧ (SqL K H p ys ∨ SqT K H p ys) ∧ Q (.int ys.length) H) c_len := by
  intro m E G0 G e σ H vs ds rr Q R l q P
  unfold c_len at q
  split at q
  · cases q
    obtain ⟨v, rfl, lv⟩ := lv1 l
    obtain ⟨p, ws, rfl, s1, k⟩ := lv.list R.gh
    refine ⟨p, ws, rfl, .inl s1, ?_⟩
    rw [dpAll_len k]
    exact P.now R (.int _) True.intro
  · cases q
    obtain ⟨v, rfl, lv⟩ := lv1 l
    obtain ⟨p, ws, rfl, s1, k⟩ := lv.tup R.gh
    refine ⟨p, ws, rfl, .inr s1, ?_⟩
    rw [dpAll_len k]
    exact P.now R (.int _) True.intro
  · cases q
theorem vc_abs : VC K (fun xs H Q => ∃ i, xs = [.int i] ∧ Q (.int (if i < 0 then -i else i)) H) c_abs := by
  intro m E G0 G e σ H vs ds rr Q R l q P
  unfold c_abs at q
  split at q
  · cases q
    obtain ⟨v, rfl, lv⟩ := lv1 l
    exact ⟨_, by rw [lv.int], P.now R (.int _) True.intro⟩
  · cases q
theorem vc_int : VC K (fun xs H Q => (∃ i, xs = [.int i] ∧ Q (.int i) H) ∨ ∃ k, xs = [.bl k] ∧ Q (.int (if k then 1 else 0)) H) c_int := by
  intro m E G0 G e σ H vs ds rr Q R l q P
  unfold c_int at q
  split at q
  · cases q
    obtain ⟨v, rfl, lv⟩ := lv1 l
    exact .inl ⟨_, by rw [lv.int], P.now R (.int _) True.intro⟩
  · cases q
    obtain ⟨v, rfl, lv⟩ := lv1 l
    exact .inr ⟨_, by rw [lv.bool], P.now R (.int _) True.intro⟩
  · cases q
theorem vc_list : VC K (fun xs H Q => ∃ p ys, xs = [.ref p] ∧ (SqL K H p ys ∨ SqT K H p ys) ∧ ∀ l, H l = none → Q (.ref l) (upd H l (.lst ys))) c_list := by
  intro m E G0 G e σ H vs ds rr Q R l q P
  unfold c_list at q
  split at q
  · cases q
    obtain ⟨v, rfl, lv⟩ := lv1 l
    obtain ⟨p, ws, rfl, s1, k⟩ := lv.list R.gh
    refine ⟨p, ws, rfl, .inl s1, fun p2 hp => ?_⟩
    obtain ⟨R', S', V', N'⟩ := R.newL hp k
    exact P _ _ _ R' S' V' N'
  · cases q
    obtain ⟨v, rfl, lv⟩ := lv1 l
    obtain ⟨p, ws, rfl, s1, k⟩ := lv.tup R.gh
    refine ⟨p, ws, rfl, .inr s1, fun p2 hp => ?_⟩
    obtain ⟨R', S', V', N'⟩ := R.newL hp k
    exact P _ _ _ R' S' V' N'
  · cases q
theorem vc_tuple : VC K (fun xs H Q => ∃ p ys, xs = [.ref p] ∧ ((SqL K H p ys ∧ ∀ l, H l = none → Q (.ref l) (upd H l (.tup ys))) ∨ (SqT K H p ys ∧ Q (.ref p) H))) c_tuple := by
  intro m E G0 G e σ H vs ds rr Q R l q P
  unfold c_tuple at q
  split at q
  · cases q
    obtain ⟨v, rfl, lv⟩ := lv1 l
    obtain ⟨p, ws, rfl, s1, k⟩ := lv.list R.gh
    refine ⟨p, ws, rfl, .inl ⟨s1, fun p2 hp => ?_⟩⟩
    obtain ⟨R', S', D'⟩ := R.newT hp k
    exact P _ _ _ R' S' D' True.intro
  · cases q
    obtain ⟨v, rfl, lv⟩ := lv1 l
    obtain ⟨p, ws, rfl, s1, k⟩ := lv.tup R.gh
    refine ⟨p, ws, rfl, .inr ⟨s1, ?_⟩⟩
    rcases lv with lv | ⟨_, _, _, _, z, _⟩
    · exact P.now R lv True.intro
    · cases z
  · cases q
end
end DL
namespace DL
open PySem PySem.Spec PyProof.Rows L2
inductive Ty where
  | int | bool | str | tuple | list
def Ty.nm : Ty → String
  | .int => "int"
  | .bool => "bool"
  | .str => "str"
  | .tuple => "tuple"
  | .list => "list"
def isD : Ty → PyData → Option Bool
  | _, .dict _ => none
  | .int, .int _ => some true
  | .int, .bool _ => some true
  | .bool, .bool _ => some true
  | .str, .str _ => some true
  | .tuple, .tuple _ => some true
  | .list, .list _ => some true
  | _, _ => some false
def tyN : PyData → String
  | .none => "NoneType"
  | .bool _ => "bool"
  | .int _ => "int"
  | .str _ => "str"
  | .list _ => "list"
  | .tuple _ => "tuple"
  | .dict _ => "dict"
theorem isD_ok {T : Ty} {d : PyData} {b : Bool} (h : isD T d = some b) : kitB (tyN d) T.nm = some b := by
  cases d <;> cases T <;> first
    | (cases h; done)
    | (cases h; simp only [tyN, Ty.nm]; decide +kernel)
theorem lv_ty {K : PySem.W.Frag} {G H : Hp} {v : V} {d : PyData} (s : Same G H) (h : Lv K G H v d) {T : Ty} {b : Bool} (hd : isD T d = some b) : TyX K H v (.type (tyN d)) := by
  have h := h.dp s
  cases h with
  | non => exact .base .non
  | bl b => exact .base (.bl b)
  | int i => exact .base (.int i)
  | str x => exact .base (.str x)
  | lst h1 _ =>
    rcases h1 with (h2 | ⟨o, h2⟩) | ⟨o, its, n, hk, hc, _⟩
    · exact .base (.lst h2)
    · exact .base (.frz h2)
    · exact .kList hk hc
  | tup h1 _ =>
    rcases h1 with (h2 | ⟨o, h2⟩) | ⟨o, its, n, hk, hc, _⟩
    · exact .base (.tup h2)
    · exact .fTuple h2
    · exact .kTuple hk hc
  | ins _ _ _ _ => cases T <;> cases hd
  | dct _ _ _ => cases T <;> cases hd
def x_isi (T : Ty) (f : Fe) : Fe := fun e => match f e with
  | some (r, e1) => (match lookR e1 (frzR r) with
    | some d => (match isD T d with
      | some b => some (.im (.bool b), e1)
      | none => none)
    | none => none)
  | none => none
section
variable {X : Cx} {a : Expr} {fa : Fe} {pos p p2 : Pos}
theorem ed_isi (T : Ty) (ha : ED X a fa) {y : Str} (hm : X.mg "isinstance" = none) (hmT : X.mg y = none) (hy : y = Str.ofString T.nm := by rfl) (hb : bootBuiltins y = some (.type T.nm) := by decide +kernel) (hg : Gl X "isinstance" := by rfl) (hgT : Gl X y := by rfl)
    (hny : y ≠ "__name__" := by decide) (hdy : (y == ("__debug__" : Str)) = false := by decide)
    (h1 : starEach [.Name y p2] X.env = (false, eval (.Name y p2) X.env) :: starEach [] X.env := by rfl)
    (he : starEach [a, .Name y p2] X.env = (false, eval a X.env) :: starEach [.Name y p2] X.env := by rfl) (hpl : (backTo pos (starEach [.Name y p2] X.env)).any (·.1) = false := by rfl) :
    ED X (.Call (.Name "isinstance" p) [a, .Name y p2] [] pos) (x_isi T fa) := by
  obtain ⟨t, pa, k⟩ := ha
  refine ⟨_, pe_callB call_isi hg hm (by decide +kernel) (pa_cons pa (pa_cons (pe_bltn (v := .ty T.nm) hgT hmT hb rfl hny hdy) pa_nil h1) he) (by decide) (by decide) he hpl, fun m E G0 G e σ H r e' Q R q P => ?_⟩
  unfold x_isi at q
  cases h1 : fa e with
  | none => simp only [h1] at q; cases q
  | some z =>
    obtain ⟨r0, e1⟩ := z
    simp only [h1] at q
    cases h4 : lookR e1 (frzR r0) with
    | none => simp only [h4] at q; cases q
    | some d =>
      simp only [h4] at q
      cases h5 : isD T d with
      | none => simp only [h5] at q; cases q
      | some b =>
        simp only [h5, Option.some.injEq, Prod.mk.injEq] at q
        obtain ⟨rfl, rfl⟩ := q
        refine k m E G0 G e σ H r0 e1 _ R h1 fun v G1 H1 R1 S1 V1 N1 => ?_
        obtain ⟨G1', R1', S1', s1, V1'⟩ := R1.freeze S1 V1 N1
        have L := R1'.look V1' h4
        exact ⟨v, .ty T.nm, .type (tyN d), .type T.nm, b, rfl, .ty _, lv_ty R1'.gh L h5, kit_ty (isD_ok h5), P _ _ _ R1' S1' (.bl _) True.intro⟩
end
def unI : List PyData → Option (List Int)
  | [] => some []
  | .int i :: ds => (unI ds).map (i :: ·)
  | _ :: _ => none
theorem unI_ok : ∀ {ds : List PyData} {ns : List Int}, unI ds = some ns → ds = ns.map PyData.int
  | [], ns, h => by
    cases h
    rfl
  | d :: ds, ns, h => by
    cases d with
    | int i =>
      simp only [unI] at h
      cases z : unI ds with
      | none => rw [z] at h; cases h
      | some ms =>
        rw [z] at h
        cases h
        rw [unI_ok z]
        rfl
    | _ => simp only [unI] at h; cases h
theorem dp_ints {K : PySem.W.Frag} {G : Hp} : ∀ {vs : List V} {ns : List Int}, DpAll K G vs (ns.map PyData.int) → vs = ns.map V.int
  | [], [], _ => rfl
  | [], _ :: _, h => by cases h
  | _ :: _, [], h => by cases h
  | v :: vs, n :: ns, h => by
    cases h with
    | cons h t =>
      cases h
      rw [dp_ints t]
      rfl
/-- the greatest, the least of what is there -/
def maxI : List Int → Int
  | [] => 0
  | [a] => a
  | a :: b :: r => max a (maxI (b :: r))
theorem maxI_uniq : ∀ {ns : List Int} {m : Int}, m ∈ ns → (∀ y, y ∈ ns → y ≤ m) → m = maxI ns
  | [], _, h, _ => by cases h
  | [a], m, h, _ => by simpa [maxI] using h
  | a :: b :: r, m, h, k => by
    show m = max a (maxI (b :: r))
    have ka := k a List.mem_cons_self
    have mem : maxI (b :: r) ∈ (b :: r) := by
      have : ∀ (l : List Int), l ≠ [] → maxI l ∈ l := by
        intro l
        induction l with
        | nil => intro z; exact absurd rfl z
        | cons x l ih =>
          intro _
          cases l with
          | nil => simp [maxI]
          | cons y l =>
            have q := ih (by simp)
            show max x (maxI (y :: l)) ∈ _
            by_cases z : x ≤ maxI (y :: l)
            · rw [show max x (maxI (y :: l)) = maxI (y :: l) by omega]
              exact List.mem_cons_of_mem _ q
            · rw [show max x (maxI (y :: l)) = x by omega]
              exact List.mem_cons_self
      exact this _ (by simp)
    have kb := k _ (List.mem_cons_of_mem _ mem)
    rcases List.mem_cons.mp h with e | h'
    · omega
    · have q := maxI_uniq h' fun y hy => k y (List.mem_cons_of_mem _ hy)
      omega
def c_intsL (g : List Int → Option Rs) : List PyData → Option Rs
  | [.list ds] => (match unI ds with
    | some ns => g ns
    | none => none)
  | _ => none
def c_max : List PyData → Option Rs := c_intsL fun ns => if ns.isEmpty = true then none else some (.im (.int (maxI ns)))
def c_sum : List PyData → Option Rs := c_intsL fun ns => some (.im (.int ns.sum))
/-- sorted, ascending, falling, by insertion (what the kernel can reckon) -/
def insB {α : Type} (le : α → α → Bool) (x : α) : List α → List α
  | [] => [x]
  | y :: l => match le x y with
    | true => x :: y :: l
    | false => y :: insB le x l
def sortB {α : Type} (le : α → α → Bool) : List α → List α
  | [] => []
  | x :: l => insB le x (sortB le l)
def downI (ns : List Int) : List Int := sortB (fun a b => decide (b ≤ a)) ns
section
variable {K : PySem.W.Frag} {X : Cx}
theorem intsL_ok {g : List Int → Option Rs} {ds : List PyData} {r : Rs} (q : c_intsL g ds = some r) : ∃ ns, ds = [.list (ns.map PyData.int)] ∧ g ns = some r := by
  unfold c_intsL at q
  split at q
  · rename_i es
    cases z : unI es with
    | none => simp only [z] at q; cases q
    | some ns =>
      simp only [z] at q
      exact ⟨ns, by rw [unI_ok z], q⟩
  · cases q
theorem lv_ints {G H : Hp} {vs : List V} {ns : List Int} (s : Same G H) (l : LvAll K G H vs [.list (ns.map PyData.int)]) : ∃ p, vs = [.ref p] ∧ SqL K H p (ns.map V.int) := by
  obtain ⟨v, rfl, lv⟩ := lv1 l
  obtain ⟨p, ws, rfl, s1, k⟩ := lv.list s
  rw [dp_ints k] at s1
  exact ⟨p, rfl, s1⟩
theorem vc_max : VC K (rMax K) c_max := by
  intro m E G0 G e σ H vs ds rr Q R l q P
  obtain ⟨ns, rfl, q2⟩ := intsL_ok q
  clear q
  obtain ⟨p, rfl, s1⟩ := lv_ints R.gh l
  cases ns with
  | nil => cases q2
  | cons a r =>
    cases q2
    refine ⟨p, _, rfl, s1, Nat.succ_pos _, fun M h1 h2 => ?_⟩
    rw [maxI_uniq h1 h2]
    exact P.now R (.int _) True.intro
theorem vc_sum : VC K (rSum K) c_sum := by
  intro m E G0 G e σ H vs ds rr Q R l q P
  obtain ⟨ns, rfl, q2⟩ := intsL_ok q
  clear q
  obtain ⟨p, rfl, s1⟩ := lv_ints R.gh l
  cases q2
  exact ⟨p, _, rfl, s1, P.now R (.int _) True.intro⟩
end
end DL
namespace DL
open PySem PySem.Spec PyProof.Rows L2 RT RZ
def teOf (K : PySem.W.Frag) (f : Fe) : TE := fun σ H Q => ∃ m E G0 G e r e', Rl K m E G0 G e σ H ∧ f e = some (r, e') ∧ Po K m E G0 σ G H e r e' Q
def ttOf (K : PySem.W.Frag) (f : Ft) : TT := fun σ H Q => ∃ m E G0 G e b e', Rl K m E G0 G e σ H ∧ f e = some (b, e') ∧ ∀ G' H', Rl K m E G0 G' e' σ H' → Stp σ G H e G' H' e' → Q b H'
theorem ED.can {X : Cx} {x : Expr} {f : Fe} (h : ED X x f) : PE X x (teOf X.K f) := by
  obtain ⟨t, p, k⟩ := h
  refine ⟨fun pins s σ H Q I q => p.run pins s σ H Q I ?_⟩
  obtain ⟨m, E, G0, G, e, r, e', R, q, P⟩ := q
  exact k m E G0 G e σ H r e' Q R q P
theorem TD.can {X : Cx} {x : Expr} {f : Ft} (h : TD X x f) : PT X x (ttOf X.K f) := by
  obtain ⟨t, p, k⟩ := h
  refine ⟨fun pins s σ H Q I q => p.run pins s σ H Q I ?_⟩
  obtain ⟨m, E, G0, G, e, b, e', R, q, P⟩ := q
  exact k m E G0 G e σ H b e' Q R q P
section
variable {K : PySem.W.Frag} {m : Option Addr} {E : Ef} {G0 G H : Hp} {e : Ev} {σ : St} {v : V} {d : PyData}
theorem set_get {α : Type} {l : List α} {i j : Nat} {a : α} : (l.set i a)[j]? = if i = j ∧ j < l.length then some a else l[j]? := by
  rw [List.getElem?_set]
  by_cases h : i = j
  · subst h
    by_cases k : i < l.length
    · simp [k]
    · simp [k]
  · simp [h]
theorem Rl.setI (R : Rl K m E G0 G e σ H) (i : Nat) (h : Dp K G v d) : Rl K m E G0 G (e.set i (some (.im d))) (σ.set i (some v)) H := by
  have hl := R.len
  refine ⟨R.gg, R.gh, R.eh, R.mh, R.nw, by rw [List.length_set, List.length_set]; exact hl, fun j d' q => ?_, fun j ds q => ?_, fun j k dj dk p q1 q2 q3 q4 => ?_, fun j dss q => ?_⟩
  · rw [set_get] at q ⊢
    by_cases z : i = j ∧ j < e.length
    · rw [if_pos z] at q
      cases q
      rw [if_pos ⟨z.1, by omega⟩]
      exact ⟨v, rfl, h⟩
    · rw [if_neg z] at q
      rw [if_neg (by omega)]
      exact R.im j d' q
  · rw [set_get] at q ⊢
    by_cases z : i = j ∧ j < e.length
    · rw [if_pos z] at q
      cases q
    · rw [if_neg z] at q
      rw [if_neg (by omega)]
      exact R.ac j ds q
  · rw [set_get] at q1 q2 q3 q4
    by_cases z1 : i = j ∧ j < e.length
    · rw [if_pos z1] at q1
      cases q1
    · by_cases z2 : i = k ∧ k < e.length
      · rw [if_pos z2] at q2
        cases q2
      · rw [if_neg z1] at q1
        rw [if_neg z2] at q2
        rw [if_neg (by omega)] at q3
        rw [if_neg (by omega)] at q4
        exact R.inj j k dj dk p q1 q2 q3 q4
  · rw [set_get] at q ⊢
    by_cases z : i = j ∧ j < e.length
    · rw [if_pos z] at q
      cases q
      exact True.intro
    · rw [if_neg z] at q
      rw [if_neg (by omega)]
      exact R.ot j dss q
theorem Rl.setA {ds : List PyData} (R : Rl K m E G0 G e σ H) (i : Nat) (h : Vr K E G H σ e v (.ac ds)) : Rl K m E G0 G (e.set i (some (.ac ds))) (σ.set i (some v)) H := by
  have hl := R.len
  obtain ⟨p0, ws0, rfl, h1, h2, h3, h4, h5⟩ := h
  refine ⟨R.gg, R.gh, R.eh, R.mh, R.nw, by rw [List.length_set, List.length_set]; exact hl, fun j d' q => ?_, fun j ds q => ?_, fun j k dj dk p q1 q2 q3 q4 => ?_, fun j dss q => ?_⟩
  · rw [set_get] at q ⊢
    by_cases z : i = j ∧ j < e.length
    · rw [if_pos z] at q
      cases q
    · rw [if_neg z] at q
      rw [if_neg (by omega)]
      exact R.im j d' q
  · rw [set_get] at q ⊢
    by_cases z : i = j ∧ j < e.length
    · rw [if_pos z] at q
      cases q
      rw [if_pos ⟨z.1, by omega⟩]
      exact ⟨p0, ws0, rfl, h2, h3, h4, .inl h1⟩
    · rw [if_neg z] at q
      rw [if_neg (by omega)]
      exact R.ac j ds q
  · rw [set_get] at q1 q2 q3 q4
    by_cases z1 : i = j ∧ j < e.length
    · rw [if_pos ⟨z1.1, by omega⟩] at q3
      cases q3
      by_cases z2 : i = k ∧ k < e.length
      · omega
      · rw [if_neg z2] at q2
        rw [if_neg (by omega)] at q4
        exact absurd ⟨k, dk, q2, q4⟩ h5
    · by_cases z2 : i = k ∧ k < e.length
      · rw [if_pos ⟨z2.1, by omega⟩] at q4
        cases q4
        rw [if_neg z1] at q1
        rw [if_neg (by omega)] at q3
        exact absurd ⟨j, dj, q1, q3⟩ h5
      · rw [if_neg z1] at q1
        rw [if_neg z2] at q2
        rw [if_neg (by omega)] at q3
        rw [if_neg (by omega)] at q4
        exact R.inj j k dj dk p q1 q2 q3 q4
  · rw [set_get] at q ⊢
    by_cases z : i = j ∧ j < e.length
    · rw [if_pos z] at q
      cases q
      exact True.intro
    · rw [if_neg z] at q
      rw [if_neg (by omega)]
      exact R.ot j dss q
/-- slots forgotten -/
theorem Rl.forget {e' : Ev} {σ' : St} (R : Rl K m E G0 G e σ H) (hl : e'.length = e.length) (hs : σ'.length = σ.length) (h : ∀ (i : Nat) (s : Sl), e'[i]? = some (some s) → e[i]? = some (some s) ∧ σ'[i]? = σ[i]?) : Rl K m E G0 G e' σ' H := by
  refine ⟨R.gg, R.gh, R.eh, R.mh, R.nw, by rw [hl, hs]; exact R.len, fun i d q => ?_, fun i ds q => ?_, fun i j di dj p q1 q2 q3 q4 => ?_, fun i dss q => ?_⟩
  · obtain ⟨h1, h2⟩ := h i _ q
    rw [h2]
    exact R.im i d h1
  · obtain ⟨h1, h2⟩ := h i _ q
    rw [h2]
    exact R.ac i ds h1
  · obtain ⟨h1, h2⟩ := h i _ q1
    obtain ⟨h3, h4⟩ := h j _ q2
    rw [h2] at q3
    rw [h4] at q4
    exact R.inj i j di dj p h1 h3 q3 q4
  · obtain ⟨h1, h2⟩ := h i _ q
    rw [h2]
    exact R.ot i dss h1
end
structure GD (X : Cx) (tg : Expr) (S : List Nat) (γ : PyData → Ev → Option Ev) : Prop where
  ex : ∃ g, PG X tg g ∧ ∀ (m : Option Addr) (E : Ef) (G0 G : Hp) (e : Ev) (σ : St) (H : Hp) (v : V) (d : PyData) (e' : Ev) (Q : St → Hp → Prop),
    Rl X.K m E G0 G e σ H → Dp X.K G v d → γ d e = some e' → (∀ σ', Rl X.K m E G0 G e' σ' H → (∀ i : Nat, i ∉ S → σ'[i]? = σ[i]? ∧ e'[i]? = e[i]?) → σ'.length = σ.length → e'.length = e.length → (∀ i ∈ S, isAc e'[i]? = true → isAc e[i]? = true) → Q σ' H) → g v σ H Q
def tgOf (K : PySem.W.Frag) (S : List Nat) (γ : PyData → Ev → Option Ev) : TG := fun v σ H Q => ∃ m E G0 G e d e', Rl K m E G0 G e σ H ∧ Dp K G v d ∧ γ d e = some e' ∧
  ∀ σ', Rl K m E G0 G e' σ' H → (∀ i : Nat, i ∉ S → σ'[i]? = σ[i]? ∧ e'[i]? = e[i]?) → σ'.length = σ.length → e'.length = e.length → (∀ i ∈ S, isAc e'[i]? = true → isAc e[i]? = true) → Q σ' H
theorem GD.can {X : Cx} {tg : Expr} {S : List Nat} {γ : PyData → Ev → Option Ev} (h : GD X tg S γ) : PG X tg (tgOf X.K S γ) := by
  obtain ⟨g, p, k⟩ := h
  refine ⟨fun pins s σ H v u Q I r q => p.run pins s σ H v u Q I r ?_⟩
  obtain ⟨m, E, G0, G, e, d, e', R, D, q, P⟩ := q
  exact k m E G0 G e σ H v d e' Q R D q P
def g_name (i : Nat) : PyData → Ev → Option Ev := fun d e => some (e.set i (some (.im d)))
def setAll : List Nat → List PyData → Ev → Option Ev
  | [], [], e => some e
  | i :: is, d :: ds, e => setAll is ds (e.set i (some (.im d)))
  | _, _, _ => none
def g_tup (S : List Nat) : PyData → Ev → Option Ev := fun d e => match d with
  | .tuple ds => setAll S ds e
  | _ => none
theorem isAc_set {e : Ev} {i j : Nat} {d : PyData} (h : isAc (e.set i (some (.im d)))[j]? = true) : isAc e[j]? = true := by
  rw [set_get] at h
  by_cases z : i = j ∧ j < e.length
  · rw [if_pos z] at h
    cases h
  · rw [if_neg z] at h
    exact h
/-- names in order -/
structure GsD (X : Cx) (tgs : List Expr) (S : List Nat) : Prop where
  ex : ∃ g : TGs, PGs X tgs g ∧ ∀ (m : Option Addr) (E : Ef) (G0 G : Hp) (e : Ev) (σ : St) (H : Hp) (vs : List V) (ds : List PyData) (e' : Ev) (Q : St → Hp → Prop),
    Rl X.K m E G0 G e σ H → DpAll X.K G vs ds → setAll S ds e = some e' → (∀ σ', Rl X.K m E G0 G e' σ' H → (∀ i : Nat, i ∉ S → σ'[i]? = σ[i]? ∧ e'[i]? = e[i]?) → σ'.length = σ.length → e'.length = e.length → (∀ i ∈ S, isAc e'[i]? = true → isAc e[i]? = true) → Q σ' H) → g vs σ H Q
section
variable {X : Cx} {pos : Pos}
theorem gd_name {i : Nat} {x : Str} (hN : X.N.Nodup) (hi : X.N[i]? = some x) (hx : Loc X.env.scope x) (hf : X.fn x = true ∨ X.env.scope.names.lookup x = some .local := by first | exact .inl rfl | exact .inr rfl | assumption) : GD X (.Name x pos) [i] (g_name i) := by
  refine ⟨_, pg_name hN hi hx hf, fun m E G0 G e σ H v d e' Q R D q P => ?_⟩
  cases q
  refine P _ (R.setI i D) (fun j hj => ?_) (List.length_set ..) (List.length_set ..) fun j _ h => isAc_set h
  have z : i ≠ j := fun z => hj (by rw [z]; exact List.mem_singleton.mpr rfl)
  exact ⟨List.getElem?_set_ne z, List.getElem?_set_ne z⟩
theorem gsd_nil : GsD X [] [] := by
  refine ⟨_, pgs_nil, fun m E G0 G e σ H vs ds e' Q R D q P => ?_⟩
  cases D with
  | nil =>
    cases q
    exact ⟨rfl, P σ R (fun _ _ => ⟨rfl, rfl⟩) rfl rfl fun _ h => by cases h⟩
  | cons _ _ => cases q
theorem gsd_cons {i : Nat} {x : Str} {tgs : List Expr} {S : List Nat} (hN : X.N.Nodup) (hi : X.N[i]? = some x) (hx : Loc X.env.scope x) (hr : GsD X tgs S) (hf : X.fn x = true ∨ X.env.scope.names.lookup x = some .local := by first | exact .inl rfl | exact .inr rfl | assumption)
    (hs : (assignEach (.Name x pos :: tgs) X.env).map (·.2) = assign (.Name x pos) X.env :: (assignEach tgs X.env).map (·.2) := by rfl) : GsD X (.Name x pos :: tgs) (i :: S) := by
  obtain ⟨g, p, k⟩ := hr
  refine ⟨_, pgs_cons (pg_name hN hi hx hf) p hs, fun m E G0 G e σ H vs ds e' Q R D q P => ?_⟩
  cases D with
  | nil => cases q
  | cons h t =>
    refine ⟨_, _, rfl, ?_⟩
    refine k m E G0 G _ _ H _ _ e' Q (R.setI i h) t q fun σ' R' a1 a2 a3 a4 => ?_
    refine P σ' R' (fun j hj => ?_) (a2.trans (List.length_set ..)) (a3.trans (List.length_set ..)) fun j hj h2 => ?_
    · have z : i ≠ j := fun z => hj (by rw [z]; exact List.mem_cons_self)
      obtain ⟨b1, b2⟩ := a1 j fun y => hj (List.mem_cons_of_mem _ y)
      exact ⟨b1.trans (List.getElem?_set_ne z), b2.trans (List.getElem?_set_ne z)⟩
    · by_cases y : j ∈ S
      · exact isAc_set (a4 j y h2)
      · have b2 := (a1 j y).2
        rw [b2] at h2
        exact isAc_set h2
theorem gd_tup {tgs : List Expr} {n : Nat} {S : List Nat} (hc : X.calm = true) (h : GsD X tgs S) (hn : (assignEach tgs X.env).length = S.length := by rfl) (hst : (assignEach tgs X.env).findIdx? (·.1) = none := by rfl) : GD X (.Tuple tgs n pos) S (g_tup S) := by
  obtain ⟨g, p, k⟩ := h
  refine ⟨_, pg_tup (n := S.length) hc p hn hst, fun m E G0 G e σ H v d e' Q R D q P => ?_⟩
  unfold g_tup at q
  split at q
  · rename_i ds
    cases D with
    | tup hT hA =>
      have hl : ∀ {S : List Nat} {ds : List PyData} {e e' : Ev}, setAll S ds e = some e' → S.length = ds.length := by
        intro S
        induction S with
        | nil =>
          intro ds e e' h
          cases ds with
          | nil => rfl
          | cons _ _ => cases h
        | cons i S ih =>
          intro ds e e' h
          cases ds with
          | nil => cases h
          | cons d ds => exact congrArg (· + 1) (ih h)
      exact ⟨_, _, rfl, seqT R.gh hT, by rw [dpAll_len hA, hl q], k m E G0 G e σ H _ _ e' Q R hA q P⟩
  · cases q
end
def Yd (K : PySem.W.Frag) (G H : Hp) (x : V) (H2 : Hp) (d : PyData) : Prop :=
  (H2 = H ∧ Dp K G x d) ∨ ∃ T ws es, x = .ref T ∧ H T = none ∧ H2 = upd H T (.tup ws) ∧ d = .tuple es ∧ DpAll K G ws es
def WalkD (K : PySem.W.Frag) (G0 : Hp) (J : It) (ds : List PyData) : Prop :=
  ∀ G H, Same G0 G → Same G H → (∀ i d, ds[i]? = some d → J.go i H ∧ ∀ x H2, J.yld i H x H2 → Yd K G H x H2 d) ∧ J.stop ds.length H
abbrev Fi := Ev → Option (List PyData × Ev)
structure ID (X : Cx) (tg it : Expr) (f : Fi) : Prop where
  ex : ∃ wi, PI X tg it wi ∧ ∀ (m : Option Addr) (E : Ef) (G0 G : Hp) (e : Ev) (σ : St) (H : Hp) (ds : List PyData) (e' : Ev) (Q : It → Hp → Prop),
    Rl X.K m E G0 G e σ H → f e = some (ds, e') → (∀ J G' H', Rl X.K m E G0 G' e' σ H' → Stp σ G H e G' H' e' → WalkD X.K G' J ds → Q J H') → wi σ H Q
theorem pi_or {X : Cx} {tg it : Expr} {w1 w2 : TI} (h1 : PI X tg it w1) (h2 : PI X tg it w2) : PI X tg it (fun σ H R => w1 σ H R ∨ w2 σ H R) :=
  ⟨fun pins s σ H R I h => h.elim (h1.run pins s σ H R I) (h2.run pins s σ H R I)⟩
section
variable {K : PySem.W.Frag} {G0 : Hp} {a b : Addr} {xs ys : List V} {ds es : List PyData}
theorem walk_list (h : SqL K G0 a xs) (q : DpAll K G0 xs ds) : WalkD K G0 (Itl K a) ds := by
  intro G H s1 s2
  have hq : SqL K H a xs := (s1.trans s2).seq h
  refine ⟨fun i d e => ?_, xs, hq, by rw [dpAll_len q]; exact Nat.le_refl _⟩
  obtain ⟨v, e1, e2⟩ := dpAll_get q e
  refine ⟨⟨xs, v, hq, e1⟩, fun x H2 y => .inl ⟨y.1, ?_⟩⟩
  have z := y.2 xs hq
  rw [e1] at z
  cases z
  exact dp_same s1 e2
theorem walk_tup (h : SqT K G0 a xs) (q : DpAll K G0 xs ds) : WalkD K G0 (Itt K a) ds := by
  intro G H s1 s2
  have hq : SqT K H a xs := seqT (s1.trans s2) h
  refine ⟨fun i d e => ?_, xs, hq, by rw [dpAll_len q]; exact Nat.le_refl _⟩
  obtain ⟨v, e1, e2⟩ := dpAll_get q e
  refine ⟨⟨xs, v, hq, e1⟩, fun x H2 y => .inl ⟨y.1, ?_⟩⟩
  have z := y.2 xs hq
  rw [e1] at z
  cases z
  exact dp_same s1 e2
def rngD (lo : Int) (n : Nat) (c : Int) : List PyData := (List.range n).map fun (i : Nat) => PyData.int (lo + (i : Int) * c)
theorem rng_at {lo : Int} {n : Nat} {c : Int} {i : Nat} {d : PyData} (e : (rngD lo n c)[i]? = some d) : i < n ∧ d = .int (lo + (i : Int) * c) := by
  unfold rngD at e
  rw [List.getElem?_map] at e
  cases z : (List.range n)[i]? with
  | none => rw [z] at e; cases e
  | some j =>
    rw [z] at e
    obtain ⟨h1, h2⟩ := List.getElem?_eq_some_iff.mp z
    rw [List.length_range] at h1
    rw [List.getElem_range] at h2
    subst h2
    cases e
    exact ⟨h1, rfl⟩
theorem walk_rng {lo : Int} {n : Nat} : WalkD K G0 (Itr lo n) (rngD lo n 1) := by
  intro G H s1 s2
  refine ⟨fun i d e => ?_, by unfold rngD; rw [List.length_map, List.length_range]; exact Nat.le_refl n⟩
  obtain ⟨h1, rfl⟩ := rng_at e
  refine ⟨h1, fun x H2 y => .inl ⟨y.1, ?_⟩⟩
  rw [y.2, Int.mul_one]
  exact .int _
def zipD (ds es : List PyData) : List PyData := List.zipWith (fun a b => PyData.tuple [a, b]) ds es
theorem zip_at {i : Nat} {d : PyData} (e : (zipD ds es)[i]? = some d) : ∃ x y, ds[i]? = some x ∧ es[i]? = some y ∧ d = .tuple [x, y] := by
  unfold zipD at e
  rw [List.getElem?_zipWith] at e
  cases h1 : ds[i]? with
  | none => rw [h1] at e; cases e
  | some x =>
    cases h2 : es[i]? with
    | none => rw [h1, h2] at e; cases e
    | some y =>
      rw [h1, h2] at e
      cases e
      exact ⟨x, y, rfl, rfl, rfl⟩
theorem walk_zip (h : SqL K G0 a xs) (q : DpAll K G0 xs ds) (h' : SqL K G0 b ys) (q' : DpAll K G0 ys es) : WalkD K G0 (Itz K a b) (zipD ds es) := by
  intro G H s1 s2
  have hq : SqL K H a xs := (s1.trans s2).seq h
  have hq' : SqL K H b ys := (s1.trans s2).seq h'
  refine ⟨fun i d e => ?_, xs, ys, hq, hq', ?_⟩
  · obtain ⟨x, y, e1, e2, rfl⟩ := zip_at e
    obtain ⟨v, f1, f2⟩ := dpAll_get q e1
    obtain ⟨v', f1', f2'⟩ := dpAll_get q' e2
    refine ⟨⟨xs, ys, v, v', hq, hq', f1, f1'⟩, fun w H2 y => .inr ?_⟩
    obtain ⟨T, x1, x2, rfl, nT, rfl, z1, z2⟩ := y
    have g1 := z1 xs hq
    have g2 := z2 ys hq'
    rw [f1] at g1
    rw [f1'] at g2
    cases g1
    cases g2
    exact ⟨T, [v, v'], _, rfl, nT, rfl, rfl, .cons (dp_same s1 f2) (.cons (dp_same s1 f2') .nil)⟩
  · unfold zipD
    rw [List.length_zipWith, ← dpAll_len q, ← dpAll_len q']
    omega
theorem walk_zipT (h : SqT K G0 a xs) (q : DpAll K G0 xs ds) (h' : SqT K G0 b ys) (q' : DpAll K G0 ys es) : WalkD K G0 (ItzT K a b) (zipD ds es) := by
  intro G H s1 s2
  have hq : SqT K H a xs := seqT (s1.trans s2) h
  have hq' : SqT K H b ys := seqT (s1.trans s2) h'
  refine ⟨fun i d e => ?_, xs, ys, hq, hq', ?_⟩
  · obtain ⟨x, y, e1, e2, rfl⟩ := zip_at e
    obtain ⟨v, f1, f2⟩ := dpAll_get q e1
    obtain ⟨v', f1', f2'⟩ := dpAll_get q' e2
    refine ⟨⟨xs, ys, v, v', hq, hq', f1, f1'⟩, fun w H2 y => .inr ?_⟩
    obtain ⟨T, x1, x2, rfl, nT, rfl, z1, z2⟩ := y
    have g1 := z1 xs hq
    have g2 := z2 ys hq'
    rw [f1] at g1
    rw [f1'] at g2
    cases g1
    cases g2
    exact ⟨T, [v, v'], _, rfl, nT, rfl, rfl, .cons (dp_same s1 f2) (.cons (dp_same s1 f2') .nil)⟩
  · unfold zipD
    rw [List.length_zipWith, ← dpAll_len q, ← dpAll_len q']
    omega
end
/-- a list or a tuple that stays -/
def i_seq (f : Fe) : Fi := fun e => match f e with
  | some (r, e1) => (match frzR r with
    | .im (.list ds) => some (ds, e1)
    | .im (.tuple ds) => some (ds, e1)
    | _ => none)
  | none => none
theorem i_seq_ok {f : Fe} {e e' : Ev} {ds : List PyData} (q : i_seq f e = some (ds, e')) : ∃ r, f e = some (r, e') ∧ (frzR r = .im (.list ds) ∨ frzR r = .im (.tuple ds)) := by
  unfold i_seq at q
  split at q
  · rename_i r e1 h
    split at q
    · rename_i es h2
      cases q
      exact ⟨r, h, .inl h2⟩
    · rename_i es h2
      cases q
      exact ⟨r, h, .inr h2⟩
    · cases q
  · cases q
section
variable {X : Cx} {tg a b c : Expr} {fa fb fc : Fe} {pos p : Pos}
theorem id_seq (ha : ED X a fa) : ID X tg a (i_seq fa) := by
  obtain ⟨t, pa, k⟩ := ha
  refine ⟨_, pi_or (pi_list pa) (pi_tup pa), fun m E G0 G e σ H ds e' Q R q P => ?_⟩
  obtain ⟨r, q1, q2⟩ := i_seq_ok q
  rcases q2 with q2 | q2
  · refine .inl (k m E G0 G e σ H r e' _ R q1 fun v G1 H1 R1 S1 V1 N1 => ?_)
    obtain ⟨G1', R1', S1', s1, V1'⟩ := R1.freeze S1 V1 N1
    rw [q2] at V1'
    have V2 : Dp X.K G1' v (.list ds) := V1'
    cases V2 with
    | lst h z => exact ⟨_, rfl, ⟨_, R1'.gh.seq h⟩, P _ _ _ R1' S1' (walk_list h z)⟩
  · refine .inr (k m E G0 G e σ H r e' _ R q1 fun v G1 H1 R1 S1 V1 N1 => ?_)
    obtain ⟨G1', R1', S1', s1, V1'⟩ := R1.freeze S1 V1 N1
    rw [q2] at V1'
    have V2 : Dp X.K G1' v (.tuple ds) := V1'
    cases V2 with
    | tup h z => exact ⟨_, rfl, ⟨_, seqT R1'.gh h⟩, P _ _ _ R1' S1' (walk_tup h z)⟩
/-- range -/
def rgC (i : Int) : Bool := decide (-4611686018427387904 ≤ i ∧ i < 4611686018427387904)
theorem rgC_ok {i : Int} (h : rgC i = true) : -(2 ^ 62) ≤ i ∧ i < 2 ^ 62 := by
  have h := of_decide_eq_true h
  have e : (2 : Int) ^ 62 = 4611686018427387904 := by decide
  rw [e]
  exact h
def i_rng1 (fa : Fe) : Fi := fun e => match fa e with
  | some (.im (.int j), e1) => if rgC j = true then some (rngD 0 j.toNat 1, e1) else none
  | _ => none
def i_rng2 (fa fb : Fe) : Fi := fun e => match fa e with
  | some (.im (.int i), e1) => (match fb e1 with
    | some (.im (.int j), e2) => if (rgC i && rgC j) = true then some (rngD i (j - i).toNat 1, e2) else none
    | _ => none)
  | _ => none
theorem rng1_read {t : TE} (k : ∀ (m : Option Addr) (E : Ef) (G0 G : Hp) (e : Ev) (σ : St) (H : Hp) (r : Rs) (e' : Ev) (Q : VK), Rl X.K m E G0 G e σ H → fa e = some (r, e') → Po X.K m E G0 σ G H e r e' Q → t σ H Q)
    (m : Option Addr) (E : Ef) (G0 G : Hp) (e : Ev) (σ : St) (H : Hp) (ds : List PyData) (e' : Ev) (Q : It → Hp → Prop) (R : Rl X.K m E G0 G e σ H) (q : i_rng1 fa e = some (ds, e')) (P : ∀ J G' H', Rl X.K m E G0 G' e' σ H' → Stp σ G H e G' H' e' → WalkD X.K G' J ds → Q J H') : iRng1 (tCons t tNil) σ H Q := by
  unfold i_rng1 at q
  split at q
  · rename_i j e1 h1
    by_cases z : rgC j = true
    · rw [if_pos z] at q
      simp only [Option.some.injEq, Prod.mk.injEq] at q
      obtain ⟨rfl, rfl⟩ := q
      refine k m E G0 G e σ H _ e1 _ R h1 fun v G1 H1 R1 S1 V1 _ => ?_
      cases V1
      obtain ⟨z1, z2⟩ := rgC_ok z
      exact ⟨j, rfl, z1, z2, P _ _ _ R1 S1 walk_rng⟩
    · rw [if_neg z] at q
      cases q
  · cases q
theorem id_rng1 (ha : ED X a fa) (hm : X.mg "range" = none) (hg : Gl X "range" := by rfl) (hs : starEach [a] X.env = [(false, eval a X.env)] := by rfl) : ID X tg (.Call (.Name "range" p) [a] [] pos) (i_rng1 fa) := by
  obtain ⟨t, pa, k⟩ := ha
  exact ⟨_, pi_range1 hg hm (pa_cons pa pa_nil hs) hs, rng1_read k⟩
theorem id_rng2 (ha : ED X a fa) (hb : ED X b fb) (hm : X.mg "range" = none) (hg : Gl X "range" := by rfl) (hs : starEach [a, b] X.env = [(false, eval a X.env), (false, eval b X.env)] := by rfl) (hs2 : starEach [b] X.env = [(false, eval b X.env)] := by rfl) : ID X tg (.Call (.Name "range" p) [a, b] [] pos) (i_rng2 fa fb) := by
  obtain ⟨t, pa, k⟩ := ha
  obtain ⟨t2, pb, k2⟩ := hb
  refine ⟨_, pi_range2 hg hm (pa_cons pa (pa_cons pb pa_nil hs2) (by rw [hs, hs2])) hs hs2, fun m E G0 G e σ H ds e' Q R q P => ?_⟩
  unfold i_rng2 at q
  split at q
  · rename_i i e1 h1
    split at q
    · rename_i j e2 h2
      by_cases z : (rgC i && rgC j) = true
      · rw [if_pos z] at q
        simp only [Option.some.injEq, Prod.mk.injEq] at q
        obtain ⟨rfl, rfl⟩ := q
        refine k m E G0 G e σ H _ e1 _ R h1 fun v G1 H1 R1 S1 V1 _ => ?_
        refine k2 m E G0 G1 e1 σ H1 _ e2 _ R1 h2 fun v2 G2 H2 R2 S2 V2 _ => ?_
        cases V1
        cases V2
        obtain ⟨z1, z2⟩ := Bool.and_eq_true_iff.mp z
        have z1 := rgC_ok z1
        have z2 := rgC_ok z2
        exact ⟨i, j, rfl, ⟨z1.1, z1.2, z2.1, z2.2⟩, P _ _ _ R2 (S1.trans S2) walk_rng⟩
      · rw [if_neg z] at q
        cases q
    · cases q
  · cases q
/-- zip of two lists, of two tuples -/
def i_zip (fa fb : Fe) : Fi := fun e => match two fa fb e with
  | some (.im (.list xs), .im (.list ys), e1) => some (zipD xs ys, e1)
  | some (.im (.tuple xs), .im (.tuple ys), e1) => some (zipD xs ys, e1)
  | _ => none
theorem id_zip {es : List Expr} {kk : Nat} {tpos : Pos} (ha : ED X a fa) (hb : ED X b fb) (hm : X.mg "zip" = none) (hg : Gl X "zip" := by rfl) (hs : starEach [a, b] X.env = (false, eval a X.env) :: starEach [b] X.env := by rfl) (hs2 : starEach [b] X.env = (false, eval b X.env) :: starEach [] X.env := by rfl)
    (hpl : (backTo pos (starEach [b] X.env)).any (·.1) = false := by rfl) : ID X (.Tuple es kk tpos) (.Call (.Name "zip" p) [a, b] [] pos) (i_zip fa fb) := by
  obtain ⟨ta, tb, pa, pb, k2⟩ := two_ok ha hb
  refine ⟨_, pi_zipA hg hm (pa_cons pa (pa_cons pb pa_nil hs2) hs) hs hpl, fun m E G0 G e σ H ds e' Q R q P => ?_⟩
  unfold i_zip at q
  split at q
  · rename_i xs ys e1 h1
    simp only [Option.some.injEq, Prod.mk.injEq] at q
    obtain ⟨rfl, rfl⟩ := q
    refine k2 m E G0 G e σ H _ _ e1 _ R h1 fun u v G' H' R' S' V1 V2 => ?_
    have V1 : Dp X.K G' u (.list xs) := V1
    have V2 : Dp X.K G' v (.list ys) := V2
    cases V1 with
    | lst h1 d1 =>
      cases V2 with
      | lst h2 d2 => exact ⟨_, _, _, _, rfl, .inl ⟨R'.gh.seq h1, R'.gh.seq h2, P _ _ _ R' S' (walk_zip h1 d1 h2 d2)⟩⟩
  · rename_i xs ys e1 h1
    simp only [Option.some.injEq, Prod.mk.injEq] at q
    obtain ⟨rfl, rfl⟩ := q
    refine k2 m E G0 G e σ H _ _ e1 _ R h1 fun u v G' H' R' S' V1 V2 => ?_
    have V1 : Dp X.K G' u (.tuple xs) := V1
    have V2 : Dp X.K G' v (.tuple ys) := V2
    cases V1 with
    | tup h1 d1 =>
      cases V2 with
      | tup h2 d2 => exact ⟨_, _, _, _, rfl, .inr ⟨seqT R'.gh h1, seqT R'.gh h2, P _ _ _ R' S' (walk_zipT h1 d1 h2 d2)⟩⟩
  · cases q
end
end DL
namespace DL
open PySem PySem.Spec PyProof.Rows L2
def wipeE (e : Ev) : List Nat → Ev
  | [] => e
  | v :: vs => (wipeE e vs).set v none
def restE (e e' : Ev) : List Nat → Ev
  | [] => e'
  | v :: vs => (restE e e' vs).set v (match e[v]? with
    | some s => s
    | none => none)
def noAc (e : Ev) (vs : List Nat) : Bool := vs.all fun i => !isAc e[i]?
def lcGo (γ : PyData → Ev → Option Ev) (tst : Ft) (fe : Fe) (vs : List Nat) : List PyData → Ev → List PyData → Option (List PyData × Ev)
  | [], e, acc => some (acc, e)
  | d :: ds, e, acc => match γ d e with
    | some e1 => (match tst e1 with
      | some (true, e2) => (match fe e2 with
        | some (r, e3) => (match imR (frzR r) with
          | some y => if okLen (acc.length + 1) = true then lcGo γ tst fe vs ds (wipeE e3 vs) (acc ++ [y]) else none
          | none => none)
        | none => none)
      | some (false, e2) => lcGo γ tst fe vs ds (wipeE e2 vs) acc
      | none => none)
    | none => none
def x_lc (fi : Fi) (γ : PyData → Ev → Option Ev) (tst : Ft) (fe : Fe) (vs : List Nat) : Fe := fun e => match fi e with
  | some (ds, e1) => if noAc e1 vs = true then (match lcGo γ tst fe vs ds (wipeE e1 vs) [] with
    | some (acc, e2) => some (.ac acc, restE e1 e2 vs)
    | none => none) else none
  | none => none
section
variable {e e' : Ev} {vs : List Nat} {σ σ' : St} {i : Nat}
theorem wipeE_len : ∀ vs : List Nat, (wipeE e vs).length = e.length
  | [] => rfl
  | v :: vs => (List.length_set ..).trans (wipeE_len vs)
theorem wipeE_out : ∀ {vs : List Nat}, i ∉ vs → (wipeE e vs)[i]? = e[i]?
  | [], _ => rfl
  | v :: vs, h => by
    have h1 : v ≠ i := fun z => h (by rw [z]; exact List.mem_cons_self)
    unfold wipeE
    rw [List.getElem?_set_ne h1]
    exact wipeE_out fun z => h (List.mem_cons_of_mem _ z)
theorem wipeE_in : ∀ {vs : List Nat} {s : Sl}, (wipeE e vs)[i]? = some (some s) → i ∉ vs
  | [], _, _ => by simp
  | v :: vs, s, h => by
    unfold wipeE at h
    rw [set_get] at h
    by_cases z : v = i ∧ i < (wipeE e vs).length
    · rw [if_pos z] at h
      cases h
    · rw [if_neg z] at h
      have hl := (List.getElem?_eq_some_iff.mp h).1
      intro q
      rcases List.mem_cons.mp q with q | q
      · exact z ⟨q.symm, hl⟩
      · exact wipeE_in h q
theorem wipe_in : ∀ {vs : List Nat}, i ∈ vs → (wipe σ vs)[i]? = if i < σ.length then some none else none
  | [], h => by cases h
  | v :: vs, h => by
    unfold wipe
    rw [set_get, wipe_length]
    by_cases z : v = i ∧ i < σ.length
    · rw [if_pos z, if_pos z.2]
    · rw [if_neg z]
      by_cases y : i ∈ vs
      · exact wipe_in y
      · have e1 : i = v := by
          rcases List.mem_cons.mp h with q | q
          · exact q
          · exact absurd q y
        have hl : ¬ i < σ.length := fun q => z ⟨e1.symm, q⟩
        rw [if_neg hl, wipe_out y]
        exact List.getElem?_eq_none (by omega)
theorem wipe_same (h : ∀ i : Nat, i ∉ vs → σ'[i]? = σ[i]?) (hl : σ'.length = σ.length) : wipe σ' vs = wipe σ vs := by
  apply List.ext_getElem?
  intro i
  by_cases z : i ∈ vs
  · rw [wipe_in z, wipe_in z, hl]
  · rw [wipe_out z, wipe_out z]
    exact h i z
theorem wipe_wipe : wipe (wipe σ vs) vs = wipe σ vs := wipe_same (fun i z => wipe_out z) (wipe_length _ _)
theorem restE_len : ∀ vs : List Nat, (restE e e' vs).length = e'.length
  | [] => rfl
  | v :: vs => (List.length_set ..).trans (restE_len vs)
theorem restE_out : ∀ {vs : List Nat}, i ∉ vs → (restE e e' vs)[i]? = e'[i]?
  | [], _ => rfl
  | v :: vs, h => by
    have h1 : v ≠ i := fun z => h (by rw [z]; exact List.mem_cons_self)
    unfold restE
    rw [List.getElem?_set_ne h1]
    exact restE_out fun z => h (List.mem_cons_of_mem _ z)
theorem restE_in (hl : e'.length = e.length) : ∀ {vs : List Nat}, i ∈ vs → (restE e e' vs)[i]? = e[i]?
  | [], h => by cases h
  | v :: vs, h => by
    unfold restE
    rw [set_get, restE_len]
    by_cases z : v = i ∧ i < e'.length
    · rw [if_pos z]
      have h2 : i < e.length := by omega
      rw [z.1, List.getElem?_eq_getElem h2]
    · rw [if_neg z]
      by_cases y : i ∈ vs
      · exact restE_in hl y
      · have e1 : i = v := by
          rcases List.mem_cons.mp h with q | q
          · exact q
          · exact absurd q y
        have h2 : ¬ i < e'.length := fun q => z ⟨e1.symm, q⟩
        rw [restE_out y, List.getElem?_eq_none (by omega), List.getElem?_eq_none (by omega)]
theorem noAc_at (h : noAc e vs = true) (hi : i ∈ vs) : isAc e[i]? = false := by
  have q := List.all_eq_true.mp h i hi
  simpa using q
end
section
variable {K : PySem.W.Frag} {m : Option Addr} {E : Ef} {G0 G H : Hp} {e : Ev} {σ : St} {vs : List Nat} {D : Addr} {ws : List V}
theorem Rl.wipe (R : Rl K m E G0 G e σ H) (vs : List Nat) : Rl K m E G0 G (wipeE e vs) (L2.wipe σ vs) H :=
  R.forget (wipeE_len _) (wipe_length _ _) fun i s h => by
    have z := wipeE_in h
    rw [wipeE_out z] at h
    exact ⟨h, wipe_out z⟩
theorem own_wipe (h : noAc e vs = true) {a : Addr} : Own (L2.wipe σ vs) (wipeE e vs) a ↔ Own σ e a := by
  constructor
  · rintro ⟨i, ds, h1, h2⟩
    have z := wipeE_in h1
    rw [wipeE_out z] at h1
    rw [wipe_out z] at h2
    exact ⟨i, ds, h1, h2⟩
  · rintro ⟨i, ds, h1, h2⟩
    have z : i ∉ vs := fun z => by
      have q := noAc_at h z
      rw [h1] at q
      cases q
    exact ⟨i, ds, by rw [wipeE_out z]; exact h1, by rw [wipe_out z]; exact h2⟩
/-- a list that is nobody's is written -/
theorem Rl.updD (R : Rl K m E G0 G e σ H) (hG : G D = none) (hE : E D = none) (hO : ¬ Own σ e D) : Rl K m E G0 G e σ (upd H D (.lst ws)) := by
  refine ⟨R.gg, fun b o q => ?_, fun b o q1 q2 => ?_, fun b q => ⟨(R.mh b q).1, ?_⟩, R.nw, R.len, R.im, fun i ds q => ?_, R.inj, R.ot⟩
  · rw [upd_ne (ne_of_none q hG)]
    exact R.gh b o q
  · rw [upd_ne (ne_of_none q1 hE)]
    exact R.eh b o q1 q2
  · have z : b ≠ D := fun z => (R.mh b q).1 (by rw [z]; exact hE)
    rw [upd_ne z]
    exact (R.mh b q).2
  · obtain ⟨p, ws', h1, h2, h3, h4, h5⟩ := R.ac i ds q
    have z : p ≠ D := fun z => hO ⟨i, ds, q, by rw [← z]; exact h1⟩
    exact ⟨p, ws', h1, h2, by rw [upd_ne z]; exact h3, h4, h5⟩
end
section
variable {X : Cx}
/-- the loop -/
theorem lc_ok {m : Option Addr} {E : Ef} {G0 G1 H1 : Hp} {e1 : Ev} {σ : St} {ds : List PyData} {J : It} {S vs : List Nat} {γ : PyData → Ev → Option Ev} {tst : Ft} {fe : Fe} {acc : List PyData} {eF : Ev} {K : PySem.W.Frag} {Q : VK} {D : Addr}
    (R1 : Rl K m E G0 G1 e1 σ H1) (WD : WalkD K G1 J ds) (hS : ∀ i ∈ S, i ∈ vs) (hn : noAc e1 vs = true) (q : lcGo γ tst fe vs ds (wipeE e1 vs) [] = some (acc, eF)) (hD : H1 D = none)
    (P : ∀ G H, Rl K m E G0 G (restE e1 eF vs) σ H → Stp σ G1 H1 e1 G H (restE e1 eF vs) → Vr K E G H σ (restE e1 eF vs) (.ref D) (.ac acc) → Q (.ref D) H) :
    ∃ W : Nat → Nat → Hp → Prop, (∃ mm, W 0 mm (upd H1 D (.lst []))) ∧ ∀ i mm H, W i mm H →
      (J.stop i H ∧ Q (.ref D) H) ∨ (J.go i H ∧ ∃ Nx : Hp → Prop, (∀ H', Nx H' → ∃ m', m' < mm ∧ W (i + 1) m' H') ∧ ∀ x H', J.yld i H x H' → tgOf K S γ x (L2.wipe σ vs) H' fun σ2 H2 => L2.wipe σ2 vs = L2.wipe σ vs ∧ ttOf K tst σ2 H2 fun b H3 =>
        if b = true then teOf K fe σ2 H3 fun y H4 => ∃ acc, H4 D = some (.lst acc) ∧ acc.length < sizeLine ∧ Nx (upd H4 D (.lst (acc ++ [y]))) else Nx H3) := by
  obtain ⟨gD, eD, oD, mD⟩ := R1.fresh hD
  let W : Nat → Nat → Hp → Prop := fun i mm H => ∃ G e ac ws, mm = ds.length - i ∧ i ≤ ds.length ∧ Rl K m E G0 G e (L2.wipe σ vs) H ∧ Stp (L2.wipe σ vs) G1 H1 (wipeE e1 vs) G H e ∧ G D = none ∧ H D = some (.lst ws) ∧ DpAll K G ws ac ∧ lcGo γ tst fe vs (ds.drop i) e ac = some (acc, eF)
  refine ⟨W, ⟨ds.length, G1, wipeE e1 vs, [], [], by simp, Nat.zero_le _, ?_, ?_, gD, upd_same, .nil, by simpa using q⟩, ?_⟩
  · exact ((R1.wipe vs).newL hD .nil).1
  · exact ((R1.wipe vs).newL hD (ds := []) .nil).2.1
  rintro i mm H ⟨G, e, ac, ws, rfl, hi, R, S1, hG, hH, dv, lc⟩
  -- what is nobody's
  have noD : ¬ Own (L2.wipe σ vs) e D := fun z => oD ((own_wipe hn).mp ((own_kd S1.kd).mp z))
  obtain ⟨wk, stop⟩ := WD G H S1.gg R.gh
  by_cases hlt : i < ds.length
  · have hd : ds.drop i = ds[i] :: ds.drop (i + 1) := by rw [List.drop_eq_getElem_cons hlt]
    have hget : ds[i]? = some ds[i] := List.getElem?_eq_getElem hlt
    rw [hd] at lc
    generalize ds[i] = d at lc hget hd
    obtain ⟨go, yl⟩ := wk i d hget
    refine .inr ⟨go, W (i + 1) (ds.length - (i + 1)), fun H' h => ⟨_, by omega, h⟩, fun x H' y => ?_⟩
    -- what is yielded
    have hY : ∃ G', Rl K m E G0 G' e (L2.wipe σ vs) H' ∧ Stp (L2.wipe σ vs) G H e G' H' e ∧ Dp K G' x d := by
      rcases yl x H' y with ⟨rfl, h⟩ | ⟨T, us, es, rfl, nT, rfl, rfl, h⟩
      · exact ⟨G, R, Stp.refl, h⟩
      · obtain ⟨R', S', D'⟩ := R.newT nT h
        exact ⟨_, R', S', D'⟩
    obtain ⟨G', R', S', dx⟩ := hY
    have gD' : G' D = none := S'.nw D hG (by rw [hH]; simp)
    have hD' : H' D = some (.lst ws) := S'.hh D _ hH noD
    -- the turn's own steps
    simp only [lcGo] at lc
    cases h1 : γ d e with
    | none => simp only [h1] at lc; cases lc
    | some e2 =>
      simp only [h1] at lc
      refine ⟨m, E, G0, G', e, d, e2, R', dx, h1, fun σ' R2 out sl el ac1 => ?_⟩
      have wsame : L2.wipe σ' vs = L2.wipe σ vs := by
        have z := wipe_same (vs := vs) (σ' := σ') (σ := L2.wipe σ vs) (fun i hi => (out i fun z => hi (hS i z)).1) sl
        rw [wipe_wipe] at z
        exact z
      refine ⟨wsame, ?_⟩
      have vsE : ∀ i ∈ vs, isAc e[i]? = false := fun i hi => by
        rw [S1.kd i]
        cases z : (wipeE e1 vs)[i]? with
        | none => rfl
        | some s =>
          cases s with
          | none => rfl
          | some s => exact absurd hi (wipeE_in z)
      have own2 : ∀ a, Own σ' e2 a → Own (L2.wipe σ vs) e a := fun a ⟨j, dj, z1, z2⟩ => by
        by_cases hj : j ∈ S
        · have q1 := ac1 j hj (by rw [z1]; rfl)
          rw [vsE j (hS j hj)] at q1
          cases q1
        · obtain ⟨o1, o2⟩ := out j hj
          exact ⟨j, dj, by rw [← o2]; exact z1, by rw [← o1]; exact z2⟩
      -- closing a turn: from the state behind the element
      have fin : ∀ {G5 H4 : Hp} {e3 : Ev} {ws2 : List V} {ac2 : List PyData}, Rl K m E G0 G5 e3 σ' H4 → Stp σ' G' H' e2 G5 H4 e3 → DpAll K G5 ws2 ac2 → lcGo γ tst fe vs (ds.drop (i + 1)) (wipeE e3 vs) ac2 = some (acc, eF) →
          W (i + 1) (ds.length - (i + 1)) (upd H4 D (.lst ws2)) := by
        intro G5 H4 e3 ws2 ac2 R5 S5 d5 lc5
        have g5 : G5 D = none := S5.nw D gD' (by rw [hD']; simp)
        have o5 : ¬ Own σ' e3 D := fun z => noD (own2 D ((own_kd S5.kd).mp z))
        have R6 := (R5.updD (ws := ws2) g5 eD o5).wipe vs
        rw [wsame] at R6
        refine ⟨G5, wipeE e3 vs, ac2, ws2, rfl, hlt, R6, ⟨S1.gg.trans (S'.gg.trans S5.gg), fun a h1 h2 => ?_, fun a o h1 h2 => ?_, fun j => ?_, fun a h1 => ?_⟩, g5, upd_same, d5, lc5⟩
        · exact S5.nw a (S'.nw a (S1.nw a h1 h2) (S1.th a h2)) (S'.th a (S1.th a h2))
        · have z : a ≠ D := ne_of_none h1 hD
          rw [upd_ne z]
          have n1 : ¬ Own (L2.wipe σ vs) e a := fun y => h2 ((own_kd S1.kd).mp y)
          exact S5.hh a o (S'.hh a o (S1.hh a o h1 h2) n1) fun y => n1 (own2 a y)
        · by_cases hj : j ∈ vs
          · have b1 : ∀ {e : Ev}, isAc (wipeE e vs)[j]? = false := fun {e} => by
              cases z : (wipeE e vs)[j]? with
              | none => rfl
              | some s =>
                cases s with
                | none => rfl
                | some s => exact absurd hj (wipeE_in z)
            rw [b1, b1]
          · rw [wipeE_out hj, S5.kd j, (out j fun z => hj (hS j z)).2]
            exact S1.kd j
        · by_cases z : a = D
          · rw [z, upd_same]
            simp
          · rw [upd_ne z]
            exact S5.th a (S'.th a (S1.th a h1))
      cases h2 : tst e2 with
      | none => simp only [h2] at lc; cases lc
      | some z =>
        obtain ⟨b, e3⟩ := z
        cases b with
        | false =>
          simp only [h2] at lc
          refine ⟨m, E, G0, G', e2, false, e3, R2, h2, fun G3 H3 R3 S3 => ?_⟩
          show (if false = true then _ else _)
          rw [if_neg Bool.false_ne_true]
          have w3 : H3 D = some (.lst ws) := S3.hh D _ hD' fun z => noD (own2 D z)
          have eu : upd H3 D (.lst ws) = H3 := by
            funext b
            by_cases z : b = D
            · rw [z, upd_same, w3]
            · rw [upd_ne z]
          have z := fin R3 S3 (dpAll_same (S'.gg.trans S3.gg) dv) lc
          rw [eu] at z
          exact z
        | true =>
          simp only [h2] at lc
          refine ⟨m, E, G0, G', e2, true, e3, R2, h2, fun G3 H3 R3 S3 => ?_⟩
          show (if true = true then _ else _)
          rw [if_pos rfl]
          cases h3 : fe e3 with
          | none => simp only [h3] at lc; cases lc
          | some z =>
            obtain ⟨r, e4⟩ := z
            simp only [h3] at lc
            refine ⟨m, E, G0, G3, e3, r, e4, R3, h3, fun v G4 H4 R4 S4 V4 N4 => ?_⟩
            obtain ⟨G5, R5, S5, s5, V5⟩ := R4.freeze (S3.trans S4) V4 (nw_back S3 v N4)
            cases h4 : imR (frzR r) with
            | none => simp only [h4] at lc; cases lc
            | some yd =>
              simp only [h4] at lc
              have er : frzR r = .im yd := by
                cases r with
                | im d =>
                  cases h4
                  rfl
                | ac ds =>
                  cases h4
                  rfl
                | br i => cases h4
              rw [er] at V5
              by_cases h5 : okLen (ac.length + 1) = true
              · rw [if_pos h5] at lc
                have w4 : H4 D = some (.lst ws) := S5.hh D _ hD' fun z => noD (own2 D z)
                have hl := okLen_ok h5
                refine ⟨ws, w4, by rw [dpAll_len dv]; omega, ?_⟩
                exact fin R5 S5 (dpAll_app (dpAll_same (S'.gg.trans S5.gg) dv) (.cons V5 .nil)) lc
              · rw [if_neg h5] at lc
                cases lc
  · have hi2 : i = ds.length := by omega
    subst hi2
    rw [List.drop_length] at lc
    simp only [lcGo, Option.some.injEq, Prod.mk.injEq] at lc
    obtain ⟨rfl, rfl⟩ := lc
    have hl : e.length = e1.length := by
      have z1 := R.len
      have z2 := R1.len
      rw [wipe_length] at z1
      omega
    have vsE : ∀ i ∈ vs, isAc e[i]? = false := fun i hi => by
      rw [S1.kd i]
      cases z : (wipeE e1 vs)[i]? with
      | none => rfl
      | some s =>
        cases s with
        | none => rfl
        | some s => exact absurd hi (wipeE_in z)
    have kd : ∀ j : Nat, isAc (restE e1 e vs)[j]? = isAc e1[j]? := fun j => by
      by_cases hj : j ∈ vs
      · rw [restE_in hl hj]
      · rw [restE_out hj, S1.kd j, wipeE_out hj]
    have get : ∀ {j : Nat} {s : Sl}, (restE e1 e vs)[j]? = some (some s) → (j ∈ vs ∧ e1[j]? = some (some s)) ∨ (j ∉ vs ∧ e[j]? = some (some s)) := fun {j s} z => by
      by_cases hj : j ∈ vs
      · rw [restE_in hl hj] at z
        exact .inl ⟨hj, z⟩
      · rw [restE_out hj] at z
        exact .inr ⟨hj, z⟩
    have ac1 : ∀ {j : Nat} {dj : List PyData}, (restE e1 e vs)[j]? = some (some (.ac dj)) → j ∉ vs ∧ e[j]? = some (some (.ac dj)) := fun {j dj} z => by
      rcases get z with ⟨h1, h2⟩ | z
      · have q1 := noAc_at hn h1
        rw [h2] at q1
        cases q1
      · exact z
    have RF : Rl K m E G0 G (restE e1 e vs) σ H := by
      refine ⟨R.gg, R.gh, R.eh, R.mh, R.nw, by rw [restE_len, hl]; exact R1.len, fun j d z => ?_, fun j dj z => ?_, fun j k dj dk p z1 z2 z3 z4 => ?_, fun j dss z => ?_⟩
      · rcases get z with ⟨h1, h2⟩ | ⟨h1, h2⟩
        · obtain ⟨v, a1, a2⟩ := R1.im j d h2
          exact ⟨v, a1, dp_same S1.gg a2⟩
        · obtain ⟨v, a1, a2⟩ := R.im j d h2
          rw [wipe_out h1] at a1
          exact ⟨v, a1, a2⟩
      · obtain ⟨h1, h2⟩ := ac1 z
        obtain ⟨p, w, a1, a2⟩ := R.ac j dj h2
        rw [wipe_out h1] at a1
        exact ⟨p, w, a1, a2⟩
      · obtain ⟨h1, h2⟩ := ac1 z1
        obtain ⟨h3, h4⟩ := ac1 z2
        exact R.inj j k dj dk p h2 h4 (by rw [wipe_out h1]; exact z3) (by rw [wipe_out h3]; exact z4)
      · rcases get z with ⟨h1, h2⟩ | ⟨h1, h2⟩
        · exact (R1.ot j dss h2).mono S1.gg
        · have a1 := R.ot j dss h2
          rw [wipe_out h1] at a1
          exact a1
    refine .inl ⟨stop, P G H RF ⟨S1.gg, S1.nw, fun a o h1 h2 => S1.hh a o h1 fun z => h2 ((own_wipe hn).mp z), kd, S1.th⟩ ⟨D, ws, rfl, eD, hG, hH, dv, fun z => oD ((own_kd kd).mp z)⟩⟩
structure PTD (X : Cx) (ifs : List Expr) (f : Ft) : Prop where
  ex : PTs X ifs (ttOf X.K f)
def t_yes : Ft := fun e => some (true, e)
theorem ptd_nil : PTD X [] t_yes := ⟨⟨fun pins s σ H Q I h => by
  obtain ⟨m, E, G0, G, e, b, e', R, q, P⟩ := h
  cases q
  exact pts_nil.run pins s σ H Q I (P G H R Stp.refl)⟩⟩
theorem ptd_one {c : Expr} {f : Ft} (h : TD X c f) : PTD X [c] f := ⟨pts_one h.can⟩
variable {elt tg it : Expr} {ifs : List Expr} {scope : Scope} {own : List (Str × Nat)} {pos spos : Pos} {fi : Fi} {S : List Nat} {γ : PyData → Ev → Option Ev} {tst : Ft} {fe : Fe}
theorem x_lc_ok {wi : TI} (hS : ∀ i ∈ S, i ∈ own.map (·.2)) (k : ∀ (m : Option Addr) (E : Ef) (G0 G : Hp) (e : Ev) (σ : St) (H : Hp) (ds : List PyData) (e' : Ev) (Q : It → Hp → Prop),
      Rl X.K m E G0 G e σ H → fi e = some (ds, e') → (∀ J G' H', Rl X.K m E G0 G' e' σ H' → Stp σ G H e G' H' e' → WalkD X.K G' J ds → Q J H') → wi σ H Q)
    (m : Option Addr) (E : Ef) (G0 G : Hp) (e : Ev) (σ : St) (H : Hp) (r : Rs) (e' : Ev) (Q : VK) (R : Rl X.K m E G0 G e σ H) (q : x_lc fi γ tst fe (own.map (·.2)) e = some (r, e')) (P : Po X.K m E G0 σ G H e r e' Q) :
    tLc wi (tgOf X.K S γ) (ttOf X.K tst) (teOf X.K fe) (own.map (·.2)) σ H Q := by
  unfold x_lc at q
  cases h1 : fi e with
  | none => simp only [h1] at q; cases q
  | some z =>
    obtain ⟨ds, e1⟩ := z
    simp only [h1] at q
    by_cases h2 : noAc e1 (own.map (·.2)) = true
    · rw [if_pos h2] at q
      cases h3 : lcGo γ tst fe (own.map (·.2)) ds (wipeE e1 (own.map (·.2))) [] with
      | none => simp only [h3] at q; cases q
      | some z =>
        obtain ⟨acc, e2⟩ := z
        simp only [h3, Option.some.injEq, Prod.mk.injEq] at q
        obtain ⟨rfl, rfl⟩ := q
        refine k m E G0 G e σ H ds e1 _ R h1 fun J G1 H1 R1 S1 W1 D hD => ?_
        exact lc_ok R1 W1 hS h2 h3 hD fun G2 H2 R2 S2 V2 => P _ G2 H2 R2 (S1.trans S2) V2 (nw_back S1 _ fun p z => by
          cases z
          exact hD)
    · rw [if_neg h2] at q
      cases q
/-- [elt for tg in it if ..] -/
theorem ed_lc (hc : X.calm = true) (hN : X.N.Nodup) (hi : ID X tg it fi) (ok : blkC X.N X.env.scope scope own = true) (hS : ∀ i ∈ S, i ∈ own.map (·.2))
    (hg : ∀ (s : Shared) (H : Hp) (C : Addr) (cl : List (Str × Addr)) (fp : List Addr), GD (X.blk s H scope (compEnvC scope cl C X.env) fp) tg S γ) (ht : ∀ (s : Shared) (H : Hp) (C : Addr) (cl : List (Str × Addr)) (fp : List Addr), PTD (X.blk s H scope (compEnvC scope cl C X.env) fp) ifs tst)
    (he : ∀ (s : Shared) (H : Hp) (C : Addr) (cl : List (Str × Addr)) (fp : List Addr), ED (X.blk s H scope (compEnvC scope cl C X.env) fp) elt fe) (hs : ∀ x, foldedSetIterable it X.env x = pure x := by intro _; rfl) :
    ED X (.ListComp elt [⟨tg, it, ifs, 0⟩] scope pos) (x_lc fi γ tst fe (own.map (·.2))) := by
  obtain ⟨wi, pi, k⟩ := hi
  exact ⟨_, pe_lc hc hN pi (blkOk_by ok) (fun s H C cl fp => (hg s H C cl fp).can) (fun s H C cl fp => (ht s H C cl fp).ex) (fun s H C cl fp => (he s H C cl fp).can) hs, x_lc_ok hS k⟩
end
end DL
namespace DL
open PySem PySem.Spec PyProof.Rows L2
/-- the first slot stays the caller's list, if there is one -/
structure Rz (K : PySem.W.Frag) (m : Option Addr) (E : Ef) (G0 G : Hp) (e : Ev) (σ : St) (H : Hp) : Prop where
  r : Rl K m E G0 G e σ H
  z : ∀ p, m = some p → isAc e[0]? = true ∧ σ[0]? = some (some (.ref p))
def PoS (K : PySem.W.Frag) (m : Option Addr) (E : Ef) (G0 G : Hp) (D : Ends) : Fl → Prop
  | .nx e => ∀ G' σ H, Same G G' → Rz K m E G0 G' e σ H → D.nx σ H
  | .bk e => ∀ G' σ H, Same G G' → Rz K m E G0 G' e σ H → D.bk σ H
  | .ct e => ∀ G' σ H, Same G G' → Rz K m E G0 G' e σ H → D.ct σ H
  | .rt r e => ∀ v G' σ H, Same G G' → Rz K m E G0 G' e σ H → Vr K E G' H σ e v r → D.rt v H
structure SD (X : Cx) (st : Stmt) (f : Fs) : Prop where
  ex : ∃ t : TS, PS X st t ∧ ∀ (m : Option Addr) (E : Ef) (G0 G : Hp) (e : Ev) (σ : St) (H : Hp) (fl : Fl) (D : Ends),
    Rz X.K m E G0 G e σ H → f e = some fl → PoS X.K m E G0 G D fl → t D σ H
structure SsD (X : Cx) (sts : List Stmt) (f : Fs) : Prop where
  ex : ∃ t : TS, PSs X sts t ∧ ∀ (m : Option Addr) (E : Ef) (G0 G : Hp) (e : Ev) (σ : St) (H : Hp) (fl : Fl) (D : Ends),
    Rz X.K m E G0 G e σ H → f e = some fl → PoS X.K m E G0 G D fl → t D σ H
section
variable {K : PySem.W.Frag} {m : Option Addr} {E : Ef} {G0 G G' H H' : Hp} {e e' : Ev} {σ σ' : St} {v : V} {d : PyData} {D D' : Ends} {fl : Fl} {i : Nat}
theorem PoS.aft (P : PoS K m E G0 G D fl) (s : Same G G') : PoS K m E G0 G' D fl := by
  cases fl with
  | nx e => exact fun G2 σ H s2 R => P G2 σ H (s.trans s2) R
  | bk e => exact fun G2 σ H s2 R => P G2 σ H (s.trans s2) R
  | ct e => exact fun G2 σ H s2 R => P G2 σ H (s.trans s2) R
  | rt r e => exact fun v G2 σ H s2 R V => P v G2 σ H (s.trans s2) R V
theorem Rz.exp (R : Rz K m E G0 G e σ H) (R' : Rl K m E G0 G' e' σ H') (S : Stp σ G H e G' H' e') : Rz K m E G0 G' e' σ H' :=
  ⟨R', fun p z => ⟨by rw [S.kd 0]; exact (R.z p z).1, (R.z p z).2⟩⟩
def okS (S : List Nat) (e : Ev) : Bool := !(S.contains 0 && isAc e[0]?)
theorem okS_no (h : okS S e = true) (q : isAc e[0]? = true) : 0 ∉ S := by
  intro z
  unfold okS at h
  rw [q, List.contains_iff_mem.mpr z] at h
  cases h
theorem Rz.setI (R : Rz K m E G0 G e σ H) (h : Dp K G v d) (ok : okS [i] e = true) : Rz K m E G0 G (e.set i (some (.im d))) (σ.set i (some v)) H :=
  ⟨R.r.setI i h, fun p z => by
    obtain ⟨z1, z2⟩ := R.z p z
    have n := okS_no ok z1
    have n : i ≠ 0 := fun q => n (by rw [q]; exact List.mem_singleton.mpr rfl)
    rw [List.getElem?_set_ne n, List.getElem?_set_ne n]
    exact ⟨z1, z2⟩⟩
theorem Rz.setA {ds : List PyData} (R : Rz K m E G0 G e σ H) (h : Vr K E G H σ e v (.ac ds)) (ok : okS [i] e = true) : Rz K m E G0 G (e.set i (some (.ac ds))) (σ.set i (some v)) H :=
  ⟨R.r.setA i h, fun p z => by
    obtain ⟨z1, z2⟩ := R.z p z
    have n := okS_no ok z1
    have n : i ≠ 0 := fun q => n (by rw [q]; exact List.mem_singleton.mpr rfl)
    rw [List.getElem?_set_ne n, List.getElem?_set_ne n]
    exact ⟨z1, z2⟩⟩
end
def s_seq (f g : Fs) : Fs := fun e => match f e with
  | some (.nx e1) => g e1
  | some x => some x
  | none => none
def s_nx : Fs := fun e => some (.nx e)
def s_no : Fs := fun _ => none
section
variable {X : Cx} {st : Stmt} {rest : List Stmt} {f g : Fs} {pos : Pos} {a : Expr} {fe : Fe}
theorem ssd_nil : SsD X [] s_nx := ⟨_, pss_nil, fun m E G0 G e σ H fl D R q P => by
  cases q
  exact P G σ H (Same.refl _) R⟩
theorem ssd_cons (h : SD X st f) (h2 : SsD X rest g) : SsD X (st :: rest) (s_seq f g) := by
  obtain ⟨t, p, k⟩ := h
  obtain ⟨t2, p2, k2⟩ := h2
  refine ⟨_, pss_cons p p2, fun m E G0 G e σ H fl D R q P => ?_⟩
  unfold s_seq at q
  split at q
  · rename_i e1 h1
    refine k m E G0 G e σ H _ _ R h1 ?_
    exact fun G' σ' H' s R' => k2 m E G0 G' e1 σ' H' fl D R' q (P.aft s)
  · rename_i x h2 h1
    cases q
    refine k m E G0 G e σ H _ _ R h1 ?_
    cases fl with
    | nx e1 => exact (h2 e1 rfl).elim
    | bk e => exact P
    | ct e => exact P
    | rt r e => exact P
  · cases q
theorem ssd_one (h : SD X st f) : SsD X [st] f := by
  obtain ⟨t, p, k⟩ := h
  exact ⟨_, pss_one p, k⟩
def s_ct : Fs := fun e => some (.ct e)
theorem sd_continue : SD X (.Continue pos) s_ct := ⟨_, ps_continue, fun m E G0 G e σ H fl D R q P => by
  cases q
  exact P G σ H (Same.refl _) R⟩
theorem sd_never : SD X st s_no := ⟨_, ps_never, fun m E G0 G e σ H fl D R q P => by cases q⟩
def s_drop (f : Fe) : Fs := fun e => match f e with
  | some (_, e1) => some (.nx e1)
  | none => none
theorem sd_expr (h : ED X a fe) (hs : swapsWith a none pos.line X.env = pure false := by rfl) : SD X (.Expr a pos) (s_drop fe) := by
  obtain ⟨t, p, k⟩ := h
  refine ⟨_, ps_expr p hs, fun m E G0 G e σ H fl D R q P => ?_⟩
  unfold s_drop at q
  split at q
  · rename_i r e1 h1
    cases q
    exact k m E G0 G e σ H _ _ _ R.r h1 fun v G' H' R' S' V N => P G' σ H' S'.gg (R.exp R' S')
  · cases q
def s_ret (f : Fe) : Fs := fun e => match f e with
  | some (r, e1) => some (.rt r e1)
  | none => none
theorem sd_ret (h : ED X a fe) : SD X (.Return (some a) pos) (s_ret fe) := by
  obtain ⟨t, p, k⟩ := h
  refine ⟨_, ps_ret p, fun m E G0 G e σ H fl D R q P => ?_⟩
  unfold s_ret at q
  split at q
  · rename_i r e1 h1
    cases q
    exact k m E G0 G e σ H _ _ _ R.r h1 fun v G' H' R' S' V N => P v G' σ H' S'.gg (R.exp R' S') V
  · cases q
def s_if (c : Ft) (f g : Fs) : Fs := fun e => match c e with
  | some (true, e1) => f e1
  | some (false, e1) => g e1
  | none => none
theorem sd_if {tst : Expr} {A B : List Stmt} {c : Ft} (hc : TD X tst c) (ha : SsD X A f) (hb : SsD X B g) : SD X (.If tst A B pos) (s_if c f g) := by
  obtain ⟨t, p, k⟩ := hc
  obtain ⟨t1, p1, k1⟩ := ha
  obtain ⟨t2, p2, k2⟩ := hb
  refine ⟨_, ps_if p p1 p2, fun m E G0 G e σ H fl D R q P => ?_⟩
  unfold s_if at q
  split at q
  · rename_i e1 h1
    refine k m E G0 G e σ H true e1 _ R.r h1 fun G' H' R' S' => ?_
    rw [if_pos rfl]
    exact k1 m E G0 G' e1 σ H' fl D (R.exp R' S') q (P.aft S'.gg)
  · rename_i e1 h1
    refine k m E G0 G e σ H false e1 _ R.r h1 fun G' H' R' S' => ?_
    rw [if_neg Bool.false_ne_true]
    exact k2 m E G0 G' e1 σ H' fl D (R.exp R' S') q (P.aft S'.gg)
  · cases q
def putA (i : Nat) (e : Ev) : Rs → Option Ev
  | .im d => some (e.set i (some (.im d)))
  | .ac ds => some (e.set i (some (.ac ds)))
  | .br _ => none
def s_set (i : Nat) (f : Fe) : Fs := fun e => match f e with
  | some (r, e1) => if okS [i] e1 = true then (match putA i e1 r with
    | some e2 => some (.nx e2)
    | none => none) else none
  | none => none
def s_setF (i : Nat) (f : Fe) : Fs := s_set i fun e => match f e with
  | some (r, e1) => some (frzR r, e1)
  | none => none
theorem set_ok {i : Nat} {te : TE} (k : ∀ (m : Option Addr) (E : Ef) (G0 G : Hp) (e : Ev) (σ : St) (H : Hp) (r : Rs) (e' : Ev) (Q : VK), Rl X.K m E G0 G e σ H → fe e = some (r, e') → Po X.K m E G0 σ G H e r e' Q → te σ H Q)
    (m : Option Addr) (E : Ef) (G0 G : Hp) (e : Ev) (σ : St) (H : Hp) (fl : Fl) (D : Ends) (R : Rz X.K m E G0 G e σ H) (q : s_set i fe e = some fl) (P : PoS X.K m E G0 G D fl) : tAsg te (gName i) D σ H := by
  unfold s_set at q
  split at q
  · rename_i r e1 h1
    by_cases ok : okS [i] e1 = true
    · rw [if_pos ok] at q
      refine k m E G0 G e σ H _ _ _ R.r h1 fun v G' H' R' S' V N => ?_
      have Rx := R.exp R' S'
      cases r with
      | im d =>
        cases q
        exact P G' _ H' S'.gg (Rx.setI V ok)
      | ac ds =>
        cases q
        exact P G' _ H' S'.gg (Rx.setA V ok)
      | br j => cases q
    · rw [if_neg ok] at q
      cases q
  · cases q
theorem frz_k {te : TE} (k : ∀ (m : Option Addr) (E : Ef) (G0 G : Hp) (e : Ev) (σ : St) (H : Hp) (r : Rs) (e' : Ev) (Q : VK), Rl X.K m E G0 G e σ H → fe e = some (r, e') → Po X.K m E G0 σ G H e r e' Q → te σ H Q)
    (m : Option Addr) (E : Ef) (G0 G : Hp) (e : Ev) (σ : St) (H : Hp) (r : Rs) (e' : Ev) (Q : VK) (R : Rl X.K m E G0 G e σ H) (q : (match fe e with
      | some (r, e1) => some (frzR r, e1)
      | none => none) = some (r, e')) (P : Po X.K m E G0 σ G H e r e' Q) : te σ H Q := by
  split at q
  · rename_i r1 e1 h1
    cases q
    refine k m E G0 G e σ H _ _ _ R h1 fun v G' H' R' S' V N => ?_
    obtain ⟨G2, R2, S2, s2, V2⟩ := R'.freeze S' V N
    exact P v G2 H' R2 S2 V2 (by cases r1 <;> exact True.intro)
  · cases q
section
variable {i : Nat} {x : Str} {pos' : Pos}
theorem sd_set (i : Nat) (hN : X.N.Nodup) (h : ED X a fe) (hi : X.N[i]? = some x := by rfl) (hx : Loc X.env.scope x := by first | exact .inl rfl | exact .inr rfl) (hs : swapsWith a (some (.Name x pos')) pos.line X.env = pure false := by rfl) (hf : X.fn x = true ∨ X.env.scope.names.lookup x = some .local := by first | exact .inl rfl | exact .inr rfl | assumption) :
    SD X (.Assign [.Name x pos'] a pos) (s_set i fe) := by
  obtain ⟨t, p, k⟩ := h
  exact ⟨_, ps_set hN hi hx p hs hf, set_ok k⟩
theorem sd_setF (i : Nat) (hN : X.N.Nodup) (h : ED X a fe) (hi : X.N[i]? = some x := by rfl) (hx : Loc X.env.scope x := by first | exact .inl rfl | exact .inr rfl) (hs : swapsWith a (some (.Name x pos')) pos.line X.env = pure false := by rfl) (hf : X.fn x = true ∨ X.env.scope.names.lookup x = some .local := by first | exact .inl rfl | exact .inr rfl | assumption) :
    SD X (.Assign [.Name x pos'] a pos) (s_setF i fe) := by
  obtain ⟨t, p, k⟩ := h
  exact ⟨_, ps_set hN hi hx p hs hf, set_ok (frz_k k)⟩
end
section
variable {elt tg it : Expr} {ifs : List Expr} {scope : Scope} {own : List (Str × Nat)} {lpos spos : Pos} {fi : Fi} {S : List Nat} {γ : PyData → Ev → Option Ev} {tst : Ft} {fe : Fe} {x : Str} {pos' : Pos}
theorem sd_setLc (i : Nat) (hc : X.calm = true) (hN : X.N.Nodup) (hi : ID X tg it fi) (ok : blkC X.N X.env.scope scope own = true) (hS : ∀ i ∈ S, i ∈ own.map (·.2))
    (hg : ∀ (s : Shared) (H : Hp) (C : Addr) (cl : List (Str × Addr)) (fp : List Addr), GD (X.blk s H scope (compEnvC scope cl C X.env) fp) tg S γ) (ht : ∀ (s : Shared) (H : Hp) (C : Addr) (cl : List (Str × Addr)) (fp : List Addr), PTD (X.blk s H scope (compEnvC scope cl C X.env) fp) ifs tst)
    (he : ∀ (s : Shared) (H : Hp) (C : Addr) (cl : List (Str × Addr)) (fp : List Addr), ED (X.blk s H scope (compEnvC scope cl C X.env) fp) elt fe) (hs : ∀ x, foldedSetIterable it X.env x = pure x := by intro _; rfl)
    (hy : X.N[i]? = some x := by rfl) (hyl : X.env.scope.names.lookup x = some .local := by rfl) (hsw : swapsWith (.ListComp elt [⟨tg, it, ifs, 0⟩] scope lpos) (some (.Name x pos')) spos.line X.env = pure true := by rfl) :
    SD X (.Assign [.Name x pos'] (.ListComp elt [⟨tg, it, ifs, 0⟩] scope lpos) spos) (s_set i (x_lc fi γ tst fe (own.map (·.2)))) := by
  obtain ⟨wi, pi, k⟩ := hi
  exact ⟨_, ps_setLc hc hN hy hyl hsw pi (blkOk_by ok) (fun s H C cl fp => (hg s H C cl fp).can) (fun s H C cl fp => (ht s H C cl fp).ex) (fun s H C cl fp => (he s H C cl fp).can) hs, set_ok (x_lc_ok hS k)⟩
end
def forGo (γ : PyData → Ev → Option Ev) (S : List Nat) (fb : Fs) : List PyData → Ev → Option Fl
  | [], e => some (.nx e)
  | d :: ds, e => if okS S e = true then (match γ d e with
    | some e2 => (match fb e2 with
      | some (.nx e3) => forGo γ S fb ds e3
      | some (.ct e3) => forGo γ S fb ds e3
      | some (.bk e3) => some (.nx e3)
      | some (.rt r e3) => some (.rt r e3)
      | none => none)
    | none => none) else none
def s_for (fi : Fi) (γ : PyData → Ev → Option Ev) (S : List Nat) (fb : Fs) : Fs := fun e => match fi e with
  | some (ds, e1) => forGo γ S fb ds e1
  | none => none
/-- whatever the rule of the statement: the items are told, the body is read -/
theorem sd_forG {PIx : TI → Prop} {st : Stmt} {tg : Expr} {body : List Stmt} {fi : Fi} {S : List Nat} {γ : PyData → Ev → Option Ev} {fb : Fs} (mk : ∀ {wi : TI} {g : TG} {tb : TS}, PIx wi → PG X tg g → PSs X body tb → PS X st (tFor wi g tb))
    (hi : ∃ wi, PIx wi ∧ ∀ (m : Option Addr) (E : Ef) (G0 G : Hp) (e : Ev) (σ : St) (H : Hp) (ds : List PyData) (e' : Ev) (Q : It → Hp → Prop),
    Rl X.K m E G0 G e σ H → fi e = some (ds, e') → (∀ J G' H', Rl X.K m E G0 G' e' σ H' → Stp σ G H e G' H' e' → WalkD X.K G' J ds → Q J H') → wi σ H Q) (hg : GD X tg S γ) (hb : SsD X body fb) : SD X st (s_for fi γ S fb) := by
  obtain ⟨wi, pi, ki⟩ := hi
  obtain ⟨g, pg, kg⟩ := hg
  obtain ⟨tb, pb, kb⟩ := hb
  refine ⟨_, mk pi pg pb, fun m E G0 G e σ H fl D R q P => ?_⟩
  unfold s_for at q
  cases h1 : fi e with
  | none => simp only [h1] at q; cases q
  | some z =>
    obtain ⟨ds, e1⟩ := z
    simp only [h1] at q
    refine ki m E G0 G e σ H ds e1 _ R.r h1 fun J G1 H1 R1 S1 W1 => ?_
    let W : Nat → Nat → St → Hp → Prop := fun i mm σ H => ∃ G2 e2, mm = ds.length - i ∧ i ≤ ds.length ∧ Rz X.K m E G0 G2 e2 σ H ∧ Same G1 G2 ∧ forGo γ S fb (ds.drop i) e2 = some fl
    refine ⟨W, ⟨ds.length, G1, e1, by simp, Nat.zero_le _, R.exp R1 S1, Same.refl _, by simpa using q⟩, ?_⟩
    rintro i mm σ2 H2 ⟨G2, e2, rfl, hi, R2, s2, lc⟩
    obtain ⟨wk, stop⟩ := W1 G2 H2 s2 R2.r.gh
    by_cases hlt : i < ds.length
    · have hd : ds.drop i = ds[i] :: ds.drop (i + 1) := by rw [List.drop_eq_getElem_cons hlt]
      have hget : ds[i]? = some ds[i] := List.getElem?_eq_getElem hlt
      rw [hd] at lc
      generalize ds[i] = d at lc hget hd
      obtain ⟨go, yl⟩ := wk i d hget
      refine .inr ⟨go, W (i + 1) (ds.length - (i + 1)), fun σ' H' h => ⟨_, by omega, h⟩, fun x H' y => ?_⟩
      have hY : ∃ G', Rz X.K m E G0 G' e2 σ2 H' ∧ Same G2 G' ∧ Dp X.K G' x d := by
        rcases yl x H' y with ⟨rfl, h⟩ | ⟨T, us, es, rfl, nT, rfl, rfl, h⟩
        · exact ⟨G2, R2, Same.refl _, h⟩
        · obtain ⟨R', S', D'⟩ := R2.r.newT nT h
          exact ⟨_, R2.exp R' S', S'.gg, D'⟩
      obtain ⟨G', R', s', dx⟩ := hY
      simp only [forGo] at lc
      by_cases ok : okS S e2 = true
      · rw [if_pos ok] at lc
        cases h2 : γ d e2 with
        | none => simp only [h2] at lc; cases lc
        | some e3 =>
          simp only [h2] at lc
          refine kg m E G0 G' e2 σ2 H' x d e3 _ R'.r dx h2 fun σ3 R3 out sl el ac1 => ?_
          have R3' : Rz X.K m E G0 G' e3 σ3 H' := ⟨R3, fun p z => by
            obtain ⟨z1, z2⟩ := R'.z p z
            obtain ⟨o1, o2⟩ := out 0 (okS_no ok z1)
            rw [o1, o2]
            exact ⟨z1, z2⟩⟩
          cases h3 : fb e3 with
          | none => simp only [h3] at lc; cases lc
          | some x3 =>
            refine kb m E G0 G' e3 σ3 H' x3 _ R3' h3 ?_
            cases x3 with
            | nx e4 =>
              simp only [h3] at lc
              exact fun G4 σ4 H4 s4 R4 => ⟨G4, e4, rfl, hlt, R4, s2.trans (s'.trans s4), lc⟩
            | ct e4 =>
              simp only [h3] at lc
              exact fun G4 σ4 H4 s4 R4 => ⟨G4, e4, rfl, hlt, R4, s2.trans (s'.trans s4), lc⟩
            | bk e4 =>
              simp only [h3, Option.some.injEq] at lc
              subst lc
              exact fun G4 σ4 H4 s4 R4 => P G4 σ4 H4 (S1.gg.trans (s2.trans (s'.trans s4))) R4
            | rt r e4 =>
              simp only [h3, Option.some.injEq] at lc
              subst lc
              exact fun v G4 σ4 H4 s4 R4 V => P v G4 σ4 H4 (S1.gg.trans (s2.trans (s'.trans s4))) R4 V
      · rw [if_neg ok] at lc
        cases lc
    · have hi2 : i = ds.length := by omega
      subst hi2
      rw [List.drop_length] at lc
      cases lc
      exact .inl ⟨stop, P G2 σ2 H2 (S1.gg.trans s2) R2⟩
theorem sd_for {tg it : Expr} {body : List Stmt} {fi : Fi} {S : List Nat} {γ : PyData → Ev → Option Ev} {fb : Fs} (hc : X.calm = true) (hp : PassesOwn (model X.prog X.w) X.A X.env X.xe) (hi : ID X tg it fi) (hg : GD X tg S γ) (hb : SsD X body fb)
    (hs : ∀ x, foldedSetIterable it X.env x = pure x := by intro _; rfl) : SD X (.For tg it body [] pos) (s_for fi γ S fb) := sd_forG (fun pi pg pb => ps_for hp hc pi pg pb hs) hi.ex hg hb
def whGo (tst : Ft) (fb : Fs) : Nat → Ev → Option Fl
  | 0, _ => none
  | n + 1, e => match tst e with
    | some (false, e1) => some (.nx e1)
    | some (true, e1) => (match fb e1 with
      | some (.nx e3) => whGo tst fb n e3
      | some (.ct e3) => whGo tst fb n e3
      | some (.bk e3) => some (.nx e3)
      | some (.rt r e3) => some (.rt r e3)
      | none => none)
    | none => none
def s_while (n : Ev → Nat) (tst : Ft) (fb : Fs) : Fs := fun e => whGo tst fb (n e) e
theorem sd_while (n : Ev → Nat) {c : Expr} {body : List Stmt} {tst : Ft} {fb : Fs} (hp : PassesOwn (model X.prog X.w) X.A X.env X.xe) (hc : TD X c tst) (hb : SsD X body fb) : SD X (.While c body [] pos) (s_while n tst fb) := by
  obtain ⟨tc, pc, kc⟩ := hc
  obtain ⟨tb, pb, kb⟩ := hb
  refine ⟨_, ps_while hp pc pb, fun m E G0 G e σ H fl D R q P => ?_⟩
  let W : Nat → St → Hp → Prop := fun mm σ H => ∃ G2 e2, Rz X.K m E G0 G2 e2 σ H ∧ Same G G2 ∧ whGo tst fb mm e2 = some fl
  refine ⟨W, ⟨n e, G, e, R, Same.refl _, q⟩, ?_⟩
  rintro mm σ2 H2 ⟨G2, e2, R2, s2, lc⟩
  cases mm with
  | zero => cases lc
  | succ mm =>
    simp only [whGo] at lc
    cases h1 : tst e2 with
    | none => simp only [h1] at lc; cases lc
    | some z =>
      obtain ⟨b, e3⟩ := z
      refine kc m E G0 G2 e2 σ2 H2 b e3 _ R2.r h1 fun G3 H3 R3 S3 => ?_
      have Rx := R2.exp R3 S3
      cases b with
      | false =>
        simp only [h1, Option.some.injEq] at lc
        subst lc
        rw [if_neg Bool.false_ne_true]
        exact P G3 σ2 H3 (s2.trans S3.gg) Rx
      | true =>
        simp only [h1] at lc
        rw [if_pos rfl]
        refine ⟨W mm, fun σ' H' h => ⟨mm, Nat.lt_succ_self _, h⟩, ?_⟩
        cases h3 : fb e3 with
        | none => simp only [h3] at lc; cases lc
        | some x3 =>
          refine kb m E G0 G3 e3 σ2 H3 x3 _ Rx h3 ?_
          cases x3 with
          | nx e4 =>
            simp only [h3] at lc
            exact fun G4 σ4 H4 s4 R4 => ⟨G4, e4, R4, s2.trans (S3.gg.trans s4), lc⟩
          | ct e4 =>
            simp only [h3] at lc
            exact fun G4 σ4 H4 s4 R4 => ⟨G4, e4, R4, s2.trans (S3.gg.trans s4), lc⟩
          | bk e4 =>
            simp only [h3, Option.some.injEq] at lc
            subst lc
            exact fun G4 σ4 H4 s4 R4 => P G4 σ4 H4 (s2.trans (S3.gg.trans s4)) R4
          | rt r e4 =>
            simp only [h3, Option.some.injEq] at lc
            subst lc
            exact fun v G4 σ4 H4 s4 R4 V => P v G4 σ4 H4 (s2.trans (S3.gg.trans s4)) R4 V
def fzE (j : Nat) (e : Ev) : Ev := match e[j]? with
  | some (some (.ac ds)) => e.set j (some (.im (.list ds)))
  | _ => e
theorem Rz.fz {K : PySem.W.Frag} {m : Option Addr} {E : Ef} {G0 G H : Hp} {e : Ev} {σ : St} {j : Nat} (R : Rz K m E G0 G e σ H) (hj : j ≠ 0) : ∃ G', Same G G' ∧ Rz K m E G0 G' (fzE j e) σ H := by
  unfold fzE
  split
  · rename_i ds h
    obtain ⟨p, ws, h1, h2, h3, h4, h5⟩ := R.r.ac j ds h
    have hE : E p = none := by
      rcases h5 with h5 | h5
      · exact h5
      · exact absurd h5.2 hj
    have s1 : Same G (upd G p (.lst ws)) := same_new h2
    have hl : j < e.length := (List.getElem?_eq_some_iff.mp h).1
    refine ⟨upd G p (.lst ws), s1, ⟨⟨R.r.gg.trans s1, fun b o q => ?_, R.r.eh, R.r.mh, fun b b1 b2 => ?_, by rw [List.length_set]; exact R.r.len, fun i d q => ?_, fun i di q => ?_, fun i k di dk p' q1 q2 q3 q4 => ?_, fun i dss q => ?_⟩, fun p' z => ?_⟩⟩
    · by_cases z : b = p
      · rw [z, upd_same] at q
        rw [z, h3]
        exact q
      · rw [upd_ne z] at q
        exact R.r.gh b o q
    · have z : b ≠ p := fun z => b2 (by rw [z]; exact hE)
      rw [upd_ne z]
      exact R.r.nw b b1 b2
    · rw [set_get] at q
      by_cases z : j = i ∧ i < e.length
      · rw [if_pos z] at q
        cases q
        rw [← z.1]
        exact ⟨_, h1, .lst (.inl (.inl upd_same)) (dpAll_same s1 h4)⟩
      · rw [if_neg z] at q
        obtain ⟨v, a1, a2⟩ := R.r.im i d q
        exact ⟨v, a1, dp_same s1 a2⟩
    · rw [set_get] at q
      by_cases z : j = i ∧ i < e.length
      · rw [if_pos z] at q
        cases q
      · rw [if_neg z] at q
        obtain ⟨p', ws', a1, a2, a3, a4, a5⟩ := R.r.ac i di q
        have n : p' ≠ p := fun y => by
          rw [y] at a1
          have := R.r.inj j i ds di p h q h1 a1
          exact z ⟨this, by rw [← this]; exact hl⟩
        exact ⟨p', ws', a1, by rw [upd_ne n]; exact a2, a3, dpAll_same s1 a4, a5⟩
    · rw [set_get] at q1 q2
      by_cases z : j = i ∧ i < e.length
      · rw [if_pos z] at q1
        cases q1
      · rw [if_neg z] at q1
        by_cases z : j = k ∧ k < e.length
        · rw [if_pos z] at q2
          cases q2
        · rw [if_neg z] at q2
          exact R.r.inj i k di dk p' q1 q2 q3 q4
    · rw [set_get] at q
      by_cases z : j = i ∧ i < e.length
      · rw [if_pos z] at q
        cases q
        exact True.intro
      · rw [if_neg z] at q
        exact (R.r.ot i dss q).mono s1
    · obtain ⟨z1, z2⟩ := R.z p' z
      rw [List.getElem?_set_ne hj]
      exact ⟨z1, z2⟩
  · exact ⟨G, Same.refl _, R⟩
def s_fz (j : Nat) (f : Fs) : Fs := fun e => f (fzE j e)
theorem SD.fz (j : Nat) (h : SD X st f) (hj : j ≠ 0 := by decide) : SD X st (s_fz j f) := by
  obtain ⟨t, p, k⟩ := h
  refine ⟨_, p, fun m E G0 G e σ H fl D R q P => ?_⟩
  obtain ⟨G', s, R'⟩ := R.fz hj
  exact k m E G0 G' _ σ H fl D R' q (P.aft s)
end
end DL
namespace DL
open PySem PySem.Spec PyProof.Rows L2
section
variable {K : PySem.W.Frag} {m : Option Addr} {E : Ef} {G0 G H : Hp} {e : Ev} {σ : St} {i : Nat} {p : Addr} {d0 ds : List PyData} {ws : List V}
theorem Rl.put (R : Rl K m E G0 G e σ H) (h : e[i]? = some (some (.ac d0))) (hp : σ[i]? = some (some (.ref p))) (q : DpAll K G ws ds) :
    Rl K m E G0 G (e.set i (some (.ac ds))) σ (upd H p (.lst ws)) ∧ Stp σ G H e G (upd H p (.lst ws)) (e.set i (some (.ac ds))) := by
  obtain ⟨p', w0, h1, h2, h3, h4, h5⟩ := R.ac i d0 h
  rw [hp] at h1
  cases h1
  have hl : i < e.length := (List.getElem?_eq_some_iff.mp h).1
  refine ⟨⟨R.gg, fun b o z => ?_, fun b o z1 z2 => ?_, fun b z => ⟨(R.mh b z).1, ?_⟩, R.nw, by rw [List.length_set]; exact R.len, fun j d z => ?_, fun j dj z => ?_, fun j k dj dk p' q1 q2 q3 q4 => ?_, fun j dss z => ?_⟩,
    Same.refl _, fun _ z _ => z, fun a o z1 z2 => ?_, fun j => ?_, fun a z => ?_⟩
  · rw [upd_ne (ne_of_none z h2)]
    exact R.gh b o z
  · have n : b ≠ p := fun y => by
      rcases h5 with h5 | h5
      · rw [y, h5] at z1
        cases z1
      · exact z2 (by rw [y]; exact h5.1)
    rw [upd_ne n]
    exact R.eh b o z1 z2
  · by_cases n : b = p
    · rw [n, upd_same]
      simp
    · rw [upd_ne n]
      exact (R.mh b z).2
  · rw [set_get] at z
    by_cases y : i = j ∧ j < e.length
    · rw [if_pos y] at z
      cases z
    · rw [if_neg y] at z
      exact R.im j d z
  · rw [set_get] at z
    by_cases y : i = j ∧ j < e.length
    · rw [if_pos y] at z
      cases z
      rw [← y.1]
      exact ⟨p, ws, hp, h2, upd_same, q, h5⟩
    · rw [if_neg y] at z
      obtain ⟨p', ws', a1, a2, a3, a4, a5⟩ := R.ac j dj z
      have n : p' ≠ p := fun y2 => by
        rw [y2] at a1
        have := R.inj i j d0 dj p h z hp a1
        exact y ⟨this, by rw [← this]; exact hl⟩
      exact ⟨p', ws', a1, a2, by rw [upd_ne n]; exact a3, a4, a5⟩
  · have old : ∀ {j : Nat} {dj : List PyData}, (e.set i (some (.ac ds)))[j]? = some (some (.ac dj)) → ∃ dj', e[j]? = some (some (.ac dj')) := fun {j dj} z => by
      rw [set_get] at z
      by_cases y : i = j ∧ j < e.length
      · exact ⟨d0, by rw [← y.1]; exact h⟩
      · rw [if_neg y] at z
        exact ⟨dj, z⟩
    obtain ⟨d1, o1⟩ := old q1
    obtain ⟨d2, o2⟩ := old q2
    exact R.inj j k d1 d2 p' o1 o2 q3 q4
  · rw [set_get] at z
    by_cases y : i = j ∧ j < e.length
    · rw [if_pos y] at z
      cases z
      exact True.intro
    · rw [if_neg y] at z
      exact R.ot j dss z
  · have n : a ≠ p := fun y => z2 ⟨i, d0, h, by rw [y]; exact hp⟩
    rw [upd_ne n]
    exact z1
  · rw [set_get]
    by_cases y : i = j ∧ j < e.length
    · rw [if_pos y, ← y.1, h]
      rfl
    · rw [if_neg y]
  · by_cases n : a = p
    · rw [n, upd_same]
      simp
    · rw [upd_ne n]
      exact z
end
section
variable {X : Cx} {a b : Expr} {fa fb : Fe} {pos : Pos}
def x_app (i : Nat) (fa : Fe) : Fe := fun e => if isAc e[i]? = true then (match fa e with
  | some (r, e1) => (match imR (frzR r), e1[i]? with
    | some d, some (some (.ac ds)) => if okLen (ds.length + 1) = true then some (.im .none, e1.set i (some (.ac (ds ++ [d])))) else none
    | _, _ => none)
  | none => none) else none
theorem frz_im {r : Rs} {d : PyData} (h : imR (frzR r) = some d) : frzR r = .im d := by
  cases r with
  | im d =>
    cases h
    rfl
  | ac ds =>
    cases h
    rfl
  | br i => cases h
theorem Rl.acP {K : PySem.W.Frag} {m : Option Addr} {E : Ef} {G0 G H : Hp} {e : Ev} {σ : St} {i : Nat} (R : Rl K m E G0 G e σ H) (h : isAc e[i]? = true) :
    ∃ p ws, σ[i]? = some (some (.ref p)) ∧ H p = some (.lst ws) := by
  obtain ⟨ds', q⟩ := isAc_iff.mp h
  obtain ⟨p, ws, h1, h2, h3, _⟩ := R.ac i ds' q
  exact ⟨p, ws, h1, h3⟩
theorem len_lt {n : Nat} (h : okLen (n + 1) = true) : n < sizeLine := by
  have := okLen_ok h
  omega
/-- xs.append(e) -/
theorem ed_app (i : Nat) {x : Str} {np apos : Pos} (ha : ED X a fa) (hN : X.N[i]? = some x := by rfl)
    (hv : Vis X.env.scope x := by first | exact Or.inl rfl | exact Or.inr (Or.inl rfl) | exact Or.inr (Or.inr rfl)) (hd : (x == ("__debug__" : Str)) = false := by decide) (hcd : (x == ("__classdict__" : Str)) = false := by decide)
    (hbase : attributeBase (.Name x np) "append" X.env (eval (.Name x np) X.env) = eval (.Name x np) X.env := by rfl)
    (hfew : ((backTo pos (starEach [a] X.env)).all (fun x => !x.1) && (backToKw pos (keywordEach [] X.env)).all (fun x => x.1.isSome)
      && decide (([a] : List Expr).length + ([] : List Keyword).length + (if ([] : List Keyword).isEmpty then 0 else 1) < 30)) = true := by rfl)
    (hline : (apos.endLine == pos.line) = true := by rfl) (hs : starEach [a] X.env = (false, eval a X.env) :: starEach [] X.env := by rfl) (hplain : (backTo pos (starEach [] X.env)).any (·.1) = false := by rfl) :
    ED X (.Call (.Attribute (.Name x np) "append" apos) [a] [] pos) (x_app i fa) := by
  obtain ⟨t, p, k⟩ := ha
  refine ⟨_, pe_bm PySem.F.plainAttrs_list PySem.F.slot_list_append PySem.F.type_list_append mt_append (pe_var hN hv hd hcd) (pa_cons p pa_nil hs) hbase hfew hline hs hplain, fun m E G0 G e σ H r e' Q R q P => ?_⟩
  unfold x_app at q
  by_cases h0 : isAc e[i]? = true
  · rw [if_pos h0] at q
    obtain ⟨l, w0, hσ, hl⟩ := R.acP h0
    refine ⟨.ref l, hσ, .inl ⟨rfl, w0, .inl (.inl hl)⟩, ?_⟩
    split at q
    · rename_i r1 e1 h1
      split at q
      · rename_i d ds h2 h3
        by_cases h4 : okLen (ds.length + 1) = true
        · rw [if_pos h4] at q
          cases q
          refine k m E G0 G e σ H r1 e1 _ R h1 fun v G1 H1 R1 S1 V1 N1 => ?_
          obtain ⟨G2, R2, S2, s2, V2⟩ := R1.freeze S1 V1 N1
          rw [frz_im h2] at V2
          obtain ⟨p', ws, q1, q2, q3, q4, q5⟩ := R2.ac i ds h3
          rw [hσ] at q1
          cases q1
          obtain ⟨R3, S3⟩ := R2.put h3 hσ (dpAll_app q4 (.cons V2 .nil))
          exact ⟨l, ws, v, rfl, rfl, q3, by rw [dpAll_len q4]; exact len_lt h4, P .non G2 _ R3 (S2.trans S3) .non True.intro⟩
        · rw [if_neg h4] at q
          cases q
      · cases q
    · cases q
  · rw [if_neg h0] at q
    cases q
def s_put (i : Nat) (fv fk : Fe) : Fs := fun e => match fv e with
  | some (r, e1) => if isAc e1[i]? = true then (match imR (frzR r), fk e1 with
    | some d, some (.im (.int k), e2) => (match e2[i]? with
      | some (some (.ac ds)) => (match ixN ds.length k with
        | some j => some (.nx (e2.set i (some (.ac (ds.set j d)))))
        | none => none)
      | _ => none)
    | _, _ => none) else none
  | none => none
theorem sd_put (i : Nat) {x : Str} {np tp : Pos} (hv' : ED X a fa) (hk : ED X b fb) (hN : X.N[i]? = some x := by rfl)
    (hv : Vis X.env.scope x := by first | exact Or.inl rfl | exact Or.inr (Or.inl rfl) | exact Or.inr (Or.inr rfl)) (hd : (x == ("__debug__" : Str)) = false := by decide) (hcd : (x == ("__classdict__" : Str)) = false := by decide)
    (hs : swapsWithSole [.Subscript (.Name x np) b tp] a pos.line X.env = pure false := by rfl) (hw : swappedStores [.Subscript (.Name x np) b tp] a X.env = pure none := by rfl)
    (h1 : (assignEach [.Subscript (.Name x np) b tp] X.env).map (·.2) = [assign (.Subscript (.Name x np) b tp) X.env] := by rfl)
    (hz : ∀ v, assign (.Subscript (.Name x np) b tp) X.env v = (do
      let ov ← holding [v] (eval (.Name x np) X.env)
      let iv ← holding [v, ov] (eval b X.env)
      standAt tp
      holding [v, ov, iv] (setItem ov iv v)
      release [v, ov, iv] []) := by intros; rfl) : SD X (.Assign [.Subscript (.Name x np) b tp] a pos) (s_put i fa fb) := by
  obtain ⟨t, p, k⟩ := hv'
  obtain ⟨t2, p2, k2⟩ := hk
  refine ⟨_, ps_asg p (pg_sub (pe_var hN hv hd hcd) p2 set_list hz) hs hw h1, fun m E G0 G e σ H fl D R q P => ?_⟩
  unfold s_put at q
  split at q
  · rename_i r e1 h1
    by_cases h0 : isAc e1[i]? = true
    · rw [if_pos h0] at q
      split at q
      · rename_i d kk e2 h2 h3
        split at q
        · rename_i ds h4
          split at q
          · rename_i j h5
            cases q
            refine k m E G0 G e σ H r e1 _ R.r h1 fun v G1 H1 R1 S1 V1 N1 => ?_
            obtain ⟨G2, R2, S2, s2, V2⟩ := R1.freeze S1 V1 N1
            rw [frz_im h2] at V2
            obtain ⟨l, w0, hσ, hl⟩ := R2.acP h0
            refine ⟨.ref l, hσ, ?_⟩
            refine k2 m E G0 G2 e1 σ H1 _ e2 _ R2 h3 fun u G3 H3 R3 S3 V3 N3 => ?_
            cases V3
            obtain ⟨p', ws, q1, q2, q3, q4, q5⟩ := R3.ac i ds h4
            rw [hσ] at q1
            cases q1
            obtain ⟨R4, S4⟩ := R3.put h4 hσ (dpAll_set j q4 (dp_same S3.gg V2))
            exact ⟨l, ws, kk, j, rfl, rfl, q3, by rw [dpAll_len q4]; exact h5, P G3 σ _ (S2.gg.trans S3.gg) (R.exp R4 (S2.trans (S3.trans S4)))⟩
          · cases q
        · cases q
      · cases q
    · rw [if_neg h0] at q
      cases q
  · cases q
theorem get_list : PGet X (rIxL X.K) := by
  rintro pins s σ H o i ov iv Q I ro ri ⟨p, xs, kk, z, rfl, rfl, hq, he, q⟩
  cases ro
  obtain ⟨t', rfl⟩ := ri
  obtain ⟨us, vals, place, small⟩ := I.list hq
  have line := line63
  have same := vals.length
  have here : ∀ j : Nat, xs[j]? = some z → ∃ u, us.toArray[j]? = some u ∧ EP X pins σ Q u s := fun j hj => by
    obtain ⟨u, hu, ru⟩ := vals.get hj
    exact ⟨u, by rw [List.getElem?_toArray]; exact hu, z, H, I, ru, q⟩
  unfold atI ixN at he
  split at he
  · split at he
    · rename_i front short
      obtain ⟨u, hu, done⟩ := here kk.toNat he
      exact wpAny_getItem_list place.isList front (by omega) hu done
    · cases he
  · split at he
    · rename_i back deep
      obtain ⟨u, hu, done⟩ := here (kk + xs.length).toNat he
      have size : us.toArray.size = xs.length := by
        rw [List.size_toArray]
        exact same.symm
      exact wpAny_getItem_list_neg place.isList (by omega) (by rw [size]; exact deep) (by omega) (by rw [size]; exact hu) done
    · cases he
/-- g: the operator -/
def s_augI (g : Int → Int → Int) (i : Nat) (fk fv : Fe) : Fs := fun e => if isAc e[i]? = true then (match fk e with
  | some (.im (.int k), e1) => (match e1[i]? with
    | some (some (.ac ds)) => (match atI ds k, fv e1 with
      | some (.int a), some (.im (.int b), e2) => (match e2[i]? with
        | some (some (.ac ds2)) => (match ixN ds2.length k with
          | some j => some (.nx (e2.set i (some (.ac (ds2.set j (.int (g a b)))))))
          | none => none)
        | _ => none)
      | _, _ => none)
    | _ => none)
  | _ => none) else none
theorem sd_augI {op : Operator} (g : Int → Int → Int) (ho : PIp X op (ipI g)) (i : Nat) {x : Str} {np tp : Pos} (hk : ED X b fb) (hv' : ED X a fa) (hN : X.N[i]? = some x := by rfl)
    (hv : Vis X.env.scope x := by first | exact Or.inl rfl | exact Or.inr (Or.inl rfl) | exact Or.inr (Or.inr rfl)) (hd : (x == ("__debug__" : Str)) = false := by decide) (hcd : (x == ("__classdict__" : Str)) = false := by decide)
    (hz : ∀ ov iv new, augStore b ov iv new = (do holding [new, ov, iv] (setItem ov iv new); release [new, ov, iv] []; pure .next) := by intros; rfl) : SD X (.AugAssign (.Subscript (.Name x np) b tp) op a pos) (s_augI g i fb fa) := by
  obtain ⟨t, p, k⟩ := hv'
  obtain ⟨t2, p2, k2⟩ := hk
  refine ⟨_, ps_augS (pe_var hN hv hd hcd) p2 get_list p ho set_list hz, fun m E G0 G e σ H fl D R q P => ?_⟩
  unfold s_augI at q
  by_cases h0 : isAc e[i]? = true
  · rw [if_pos h0] at q
    obtain ⟨l, w0, hσ, hl⟩ := R.r.acP h0
    refine ⟨.ref l, hσ, ?_⟩
    split at q
    · rename_i kk e1 h1
      split at q
      · rename_i ds h2
        split at q
        · rename_i a1 b1 e2 h3 h4
          split at q
          · rename_i ds2 h5
            split at q
            · rename_i j h6
              cases q
              refine k2 m E G0 G e σ H _ e1 _ R.r h1 fun u G1 H1 R1 S1 V1 N1 => ?_
              cases V1
              obtain ⟨p', ws, q1, q2, q3, q4, q5⟩ := R1.ac i ds h2
              rw [hσ] at q1
              cases q1
              obtain ⟨z, z1, z2⟩ := dpAll_atI q4 h3
              cases z2
              refine ⟨l, ws, kk, .int a1, rfl, rfl, .inl (.inl q3), z1, ?_⟩
              refine k m E G0 G1 e1 σ H1 _ e2 _ R1 h4 fun u G2 H2 R2 S2 V2 N2 => ?_
              cases V2
              refine ⟨a1, b1, rfl, rfl, ?_⟩
              obtain ⟨p', ws2, q1, q2, q3, q4, q5⟩ := R2.ac i ds2 h5
              rw [hσ] at q1
              cases q1
              obtain ⟨R4, S4⟩ := R2.put h5 hσ (dpAll_set j q4 (.int (g a1 b1)))
              exact ⟨l, ws2, kk, j, rfl, rfl, q3, by rw [dpAll_len q4]; exact h6, P G2 σ _ (S1.gg.trans S2.gg) (R.exp R4 (S1.trans (S2.trans S4)))⟩
            · cases q
          · cases q
        · cases q
      · cases q
    · cases q
  · rw [if_neg h0] at q
    cases q
def s_aug (g : Int → Int → Int) (i : Nat) (fv : Fe) : Fs := fun e => match e[i]? with
  | some (some (.im (.int a))) => (match fv e with
    | some (.im (.int b), e1) => if okS [i] e1 = true then some (.nx (e1.set i (some (.im (.int (g a b)))))) else none
    | _ => none)
  | _ => none
theorem sd_aug {op : Operator} (g : Int → Int → Int) (ho : PIp X op (ipI g)) (i : Nat) {x : Str} {np : Pos} (hNd : X.N.Nodup) (hv' : ED X a fa) (hN : X.N[i]? = some x := by rfl)
    (hx : Loc X.env.scope x := by first | exact .inl rfl | exact .inr rfl) (hf : X.fn x = true ∨ X.env.scope.names.lookup x = some .local := by first | exact .inl rfl | exact .inr rfl | assumption) : SD X (.AugAssign (.Name x np) op a pos) (s_aug g i fa) := by
  obtain ⟨t, p, k⟩ := hv'
  refine ⟨_, ps_aug hNd hN hx p ho hf, fun m E G0 G e σ H fl D R q P => ?_⟩
  unfold s_aug at q
  split at q
  · rename_i a1 h1
    split at q
    · rename_i b1 e1 h2
      by_cases ok : okS [i] e1 = true
      · rw [if_pos ok] at q
        cases q
        obtain ⟨v, v1, v2⟩ := R.r.im i _ h1
        cases v2
        refine ⟨_, v1, ?_⟩
        refine k m E G0 G e σ H _ e1 _ R.r h2 fun u G1 H1 R1 S1 V1 N1 => ?_
        cases V1
        exact ⟨a1, b1, rfl, rfl, P G1 _ H1 S1.gg ((R.exp R1 S1).setI (.int _) ok)⟩
      · rw [if_neg ok] at q
        cases q
    · cases q
  · cases q
def s_asg (γ : PyData → Ev → Option Ev) (S : List Nat) (f : Fe) : Fs := fun e => match f e with
  | some (r, e1) => if okS S e1 = true then (match imR (frzR r) with
    | some d => (match γ d e1 with
      | some e2 => some (.nx e2)
      | none => none)
    | none => none) else none
  | none => none
theorem sd_asg {tg : Expr} {S : List Nat} {γ : PyData → Ev → Option Ev} (hv : ED X a fa) (hg : GD X tg S γ) (hs : swapsWithSole [tg] a pos.line X.env = pure false := by rfl) (hw : swappedStores [tg] a X.env = pure none := by rfl)
    (h1 : (assignEach [tg] X.env).map (·.2) = [assign tg X.env] := by rfl) : SD X (.Assign [tg] a pos) (s_asg γ S fa) := by
  obtain ⟨t, p, k⟩ := hv
  obtain ⟨g, pg, kg⟩ := hg
  refine ⟨_, ps_asg p pg hs hw h1, fun m E G0 G e σ H fl D R q P => ?_⟩
  unfold s_asg at q
  split at q
  · rename_i r e1 h1
    by_cases ok : okS S e1 = true
    · rw [if_pos ok] at q
      split at q
      · rename_i d h2
        split at q
        · rename_i e2 h3
          cases q
          refine k m E G0 G e σ H r e1 _ R.r h1 fun v G1 H1 R1 S1 V1 N1 => ?_
          obtain ⟨G2, R2, S2, s2, V2⟩ := R1.freeze S1 V1 N1
          rw [frz_im h2] at V2
          have Rx := R.exp R2 S2
          refine kg m E G0 G2 e1 σ H1 v d e2 _ R2 V2 h3 fun σ3 R3 out sl el ac1 => ?_
          exact P G2 σ3 H1 S2.gg ⟨R3, fun p z => by
            obtain ⟨z1, z2⟩ := Rx.z p z
            obtain ⟨o1, o2⟩ := out 0 (okS_no ok z1)
            rw [o1, o2]
            exact ⟨z1, z2⟩⟩
        · cases q
      · cases q
    · rw [if_neg ok] at q
      cases q
  · cases q
end
end DL
namespace DL
open PySem PySem.Spec PyProof.Rows L2
def VrF (K : PySem.W.Frag) (G H H' : Hp) (v : V) : Rs → Prop
  | .im d => Dp K G v d
  | .ac ds => ∃ p ws, v = .ref p ∧ H p = none ∧ G p = none ∧ H' p = some (.lst ws) ∧ DpAll K G ws ds
  | .br _ => False
/-- n data in, a result out -/
def spD (K : PySem.W.Frag) (n : Nat) (φ : List PyData → Option Rs) : Sp := fun vs H Q _ => ∃ G ds r, Same G H ∧ DpAll K G vs ds ∧ vs.length = n ∧ φ ds = some r ∧
  ∀ v G' H', Same G G' → Same G' H' → Same H H' → (∀ a, G a = none → H a ≠ none → G' a = none) → VrF K G' H H' v r → Q v H'
/-- a list that is written, n data in; a result and the list out -/
def spM (K : PySem.W.Frag) (n : Nat) (φ : List PyData → List PyData → Option (Rs × List PyData)) : Sp := fun vs H Q _ => ∃ G p ws c us ds r c', Same G H ∧ vs = .ref p :: us ∧ H p = some (.lst ws) ∧ G p = none ∧ DpAll K G ws c ∧ DpAll K G us ds ∧ us.length = n ∧ φ c ds = some (r, c') ∧
  ∀ v G' H' ws', Same G G' → Same G' H' → (∀ a o, H a = some o → a ≠ p → H' a = some o) → H' p = some (.lst ws') → DpAll K G' ws' c' → (∀ a, G a = none → H a ≠ none → G' a = none) → VrF K G' H H' v r → Q v H'
/-- a def of the module that is kept: where it lies, what it promises, how it is called -/
inductive Kf (P : Program) (w : World) (K : PySem.W.Frag) (mg : Str → Option Value) (base : Heap) (k : Nat) (x : Str) (sp : Sp) (dvs : List V) : Prop where
  | kept (at_ : Addr) (fd : FuncData) (names : List Str) (given : List Value) (fn : FnOk P w K mg base CX0 k at_ fd names sp) (here : mg x = some (.ref at_)) (stays : PySem.W.keepIn K (.ref at_) = true) (binds : Binds K fd names given) (vals : Vals dvs given)
def x_call (φ : List PyData → Option Rs) (dds : List PyData) (fa : Fa) : Fe := fun e => match argsI fa e with
  | some (ds, e1) => (match φ (ds ++ dds) with
    | some (.im d) => some (.im d, e1)
    | some (.ac cs) => some (.ac cs, e1)
    | _ => none)
  | none => none
section
variable {K : PySem.W.Frag} {m : Option Addr} {E : Ef} {G0 G G' H H' : Hp} {e : Ev} {σ : St} {v : V} {r : Rs}
/-- behind a call that writes nothing -/
theorem Rl.called (R : Rl K m E G0 G e σ H) (s1 : Same G G') (s2 : Same G' H') (s3 : Same H H') (n : ∀ a, G a = none → H a ≠ none → G' a = none) : Rl K m E G0 G' e σ H' ∧ Stp σ G H e G' H' e := by
  have th : ∀ a, H a ≠ none → H' a ≠ none := fun a z => by
    cases q : H a with
    | none => exact absurd q z
    | some o => rw [s3 a o q]; simp
  refine ⟨⟨R.gg.trans s1, s2, fun a o z1 z2 => s3 a o (R.eh a o z1 z2), fun a z => ⟨(R.mh a z).1, th a (R.mh a z).2⟩, fun a z1 z2 => n a (R.nw a z1 z2) ?_, R.len, fun i d q => ?_, fun i ds q => ?_, R.inj, fun i dss q => (R.ot i dss q).mono s1⟩, s1, n, fun a o z _ => s3 a o z, fun _ => rfl, th⟩
  · by_cases y : m = some a
    · exact (R.mh a y).2
    · cases q : E a with
      | none => exact absurd q z2
      | some o => rw [R.eh a o q y]; simp
  · obtain ⟨v, h1, h2⟩ := R.im i d q
    exact ⟨v, h1, dp_same s1 h2⟩
  · obtain ⟨p, ws, h1, h2, h3, h4, h5⟩ := R.ac i ds q
    exact ⟨p, ws, h1, n p h2 (by rw [h3]; simp), s3 p _ h3, dpAll_same s1 h4, h5⟩
theorem Rl.vrf (R : Rl K m E G0 G e σ H) (h : VrF K G' H H' v r) : Vr K E G' H' σ e v r ∧ Nw H v r := by
  cases r with
  | im d => exact ⟨h, True.intro⟩
  | br i => exact h.elim
  | ac ds =>
    obtain ⟨p, ws, rfl, h1, h2, h3, h4⟩ := h
    obtain ⟨f1, f2, f3, f4⟩ := R.fresh h1
    exact ⟨⟨p, ws, rfl, f2, h2, h3, h4, f3⟩, fun q z => by
      cases z
      exact h1⟩
end
def dvsD (K : PySem.W.Frag) (dvs : List V) (dds : List PyData) : Prop := ∀ G : Hp, DpAll K G dvs dds
theorem dvs0 {K : PySem.W.Frag} : dvsD K [] [] := fun _ => .nil
section
variable {X : Cx} {a : Expr} {es : List Expr} {fa : Fa} {p pos : Pos} {x : Str} {j k n : Nat} {dvs : List V} {dds : List PyData}
theorem call_ok {φ : List PyData → Option Rs} {t : TA} (hd : dvsD X.K dvs dds) (hn : ∀ ds, (φ ds).isSome = true → ds.length = n)
    (kk : ∀ (m : Option Addr) (E : Ef) (G0 G : Hp) (e : Ev) (σ : St) (H : Hp) (rs : List Rs) (e' : Ev) (Q : List V → Hp → Prop),
    Rl X.K m E G0 G e σ H → fa e = some (rs, e') → (∀ vs G' H', Rl X.K m E G0 G' e' σ H' → Stp σ G H e G' H' e' → VrAll X.K E G' H' σ e' vs rs → Q vs H') → t σ H Q)
    (m : Option Addr) (E : Ef) (G0 G : Hp) (e : Ev) (σ : St) (H : Hp) (rr : Rs) (e' : Ev) (Q : VK) (R : Rl X.K m E G0 G e σ H) (q : x_call φ dds fa e = some (rr, e')) (P : Po X.K m E G0 σ G H e rr e' Q) : tCall (spD X.K n φ) dvs E0 t σ H Q := by
  unfold x_call at q
  cases h1 : argsI fa e with
  | none => simp only [h1] at q; cases q
  | some z =>
    obtain ⟨ds, e1⟩ := z
    simp only [h1] at q
    obtain ⟨rs, q1, q2⟩ := argsI_ok h1
    have main : ∀ r, φ (ds ++ dds) = some r → r = rr ∧ e1 = e' → tCall (spD X.K n φ) dvs E0 t σ H Q := fun r h2 ⟨z1, z2⟩ => by
      subst z1 z2
      refine kk m E G0 G e σ H rs e1 _ R q1 fun vs G1 H1 R1 S1 V1 => ?_
      have D1 := vr_imAll V1 q2
      have D2 := dpAll_app D1 (hd G1)
      refine ⟨G1, ds ++ dds, r, R1.gh, D2, ?_, h2, fun v G' H' s1 s2 s3 nw vr => ?_⟩
      · rw [dpAll_len D2]
        exact hn _ (by rw [h2]; rfl)
      · obtain ⟨R2, S2⟩ := R1.called s1 s2 s3 nw
        obtain ⟨V2, N2⟩ := R1.vrf vr
        exact P v G' H' R2 (S1.trans S2) V2 (nw_back S1 v N2)
    cases h2 : φ (ds ++ dds) with
    | none => simp only [h2] at q; cases q
    | some r =>
      cases r with
      | im d =>
        simp only [h2, Option.some.injEq, Prod.mk.injEq] at q
        exact main _ h2 q
      | ac d =>
        simp only [h2, Option.some.injEq, Prod.mk.injEq] at q
        exact main _ h2 q
      | br d => simp only [h2] at q; cases q
theorem ed_call {φ : List PyData → Option Rs} (F : Kf X.prog X.w X.K X.mg X.base k x (spD X.K n φ) dvs) (hr : Room j X.A) (hk : k ≤ j) (hd : dvsD X.K dvs dds) (hn : ∀ ds, (φ ds).isSome = true → ds.length = n) (h : AD X (a :: es) fa) (hg : Gl X x := by rfl)
    (hdb : (x == ("__debug__" : Str)) = false := by decide) (he : starEach (a :: es) X.env = (false, eval a X.env) :: starEach es X.env := by rfl) (hpl : (backTo pos (starEach es X.env)).any (·.1) = false := by rfl) :
    ED X (.Call (.Name x p) (a :: es) [] pos) (x_call φ dds fa) := by
  obtain ⟨f, fd, ps, ds, F, hm, kp, hb, hv⟩ := F
  obtain ⟨t, pa, kk⟩ := h
  exact ⟨_, pe_call F (hr.mono hk) hg hm kp hb hv (E := E0) (fun _ _ _ _ _ _ _ z => z.elim) pa hdb he hpl, call_ok hd hn kk⟩
def x_callM (φ : List PyData → List PyData → Option (Rs × List PyData)) (dds : List PyData) (fa : Fa) : Fe := fun e => match fa e with
  | some (.br i :: rs, e1) => (match imAll rs, e1[i]? with
    | some ds, some (some (.ac c)) => (match φ c (ds ++ dds) with
      | some (.im d, c') => some (.im d, e1.set i (some (.ac c')))
      | some (.ac cs, c') => some (.ac cs, e1.set i (some (.ac c')))
      | _ => none)
    | _, _ => none)
  | _ => none
theorem callM_ok {φ : List PyData → List PyData → Option (Rs × List PyData)} {t : TA} (hd : dvsD X.K dvs dds) (hn : ∀ c ds, (φ c ds).isSome = true → ds.length = n)
    (kk : ∀ (m : Option Addr) (E : Ef) (G0 G : Hp) (e : Ev) (σ : St) (H : Hp) (rs : List Rs) (e' : Ev) (Q : List V → Hp → Prop),
    Rl X.K m E G0 G e σ H → fa e = some (rs, e') → (∀ vs G' H', Rl X.K m E G0 G' e' σ H' → Stp σ G H e G' H' e' → VrAll X.K E G' H' σ e' vs rs → Q vs H') → t σ H Q)
    (m : Option Addr) (E : Ef) (G0 G : Hp) (e : Ev) (σ : St) (H : Hp) (rr : Rs) (e' : Ev) (Q : VK) (R : Rl X.K m E G0 G e σ H) (q : x_callM φ dds fa e = some (rr, e')) (P : Po X.K m E G0 σ G H e rr e' Q) : tCall (spM X.K n φ) dvs E0 t σ H Q := by
  unfold x_callM at q
  split at q
  · rename_i i rs e1 h1
    split at q
    · rename_i ds c h2 h3
      have main : ∀ r c', φ c (ds ++ dds) = some (r, c') → r = rr ∧ e1.set i (some (.ac c')) = e' → tCall (spM X.K n φ) dvs E0 t σ H Q := fun r c' h4 ⟨z1, z2⟩ => by
        subst z1 z2
        refine kk m E G0 G e σ H _ e1 _ R h1 fun vs G1 H1 R1 S1 V1 => ?_
        cases vs with
        | nil => exact V1.elim
        | cons v0 vs =>
          obtain ⟨V0, V1⟩ := V1
          obtain ⟨p0, ws, o1, o2, o3, o4, o5⟩ := R1.ac i c h3
          obtain ⟨_, _, y2⟩ := V0
          rw [o1] at y2
          cases y2
          have D2 := dpAll_app (vr_imAll V1 h2) (hd G1)
          refine ⟨G1, p0, ws, c, vs ++ dvs, ds ++ dds, r, c', R1.gh, rfl, o3, o2, o4, D2, ?_, h4, fun v G' H' ws' s1 s2 s3 hp dc nw vr => ?_⟩
          · rw [dpAll_len D2]
            exact hn c _ (by rw [h4]; rfl)
          · have gp : G' p0 = none := nw p0 o2 (by rw [o3]; simp)
            have hl : i < e1.length := (List.getElem?_eq_some_iff.mp h3).1
            have th : ∀ a, H1 a ≠ none → H' a ≠ none := fun a z => by
              by_cases y : a = p0
              · rw [y, hp]; simp
              · cases q : H1 a with
                | none => exact absurd q z
                | some o => rw [s3 a o q y]; simp
            have S2 : Stp σ G1 H1 e1 G' H' (e1.set i (some (.ac c'))) := by
              refine ⟨s1, nw, fun a o z1 z2 => s3 a o z1 fun y => z2 ⟨i, c, h3, by rw [y]; exact o1⟩, fun j => ?_, th⟩
              rw [set_get]
              by_cases y : i = j ∧ j < e1.length
              · rw [if_pos y, ← y.1, h3]
                rfl
              · rw [if_neg y]
            have R2 : Rl X.K m E G0 G' (e1.set i (some (.ac c'))) σ H' := by
              refine ⟨R1.gg.trans s1, s2, fun a o z1 z2 => ?_, fun a z => ⟨(R1.mh a z).1, th a (R1.mh a z).2⟩, fun a z1 z2 => nw a (R1.nw a z1 z2) ?_, by rw [List.length_set]; exact R1.len, fun j d q => ?_, fun j dj q => ?_, fun j k dj dk p' q1 q2 q3 q4 => ?_, fun j dss q => ?_⟩
              · refine s3 a o (R1.eh a o z1 z2) fun y => ?_
                rcases o5 with o5 | o5
                · rw [y, o5] at z1
                  cases z1
                · exact z2 (by rw [y]; exact o5.1)
              · by_cases y : m = some a
                · exact (R1.mh a y).2
                · cases q : E a with
                  | none => exact absurd q z2
                  | some o => rw [R1.eh a o q y]; simp
              · rw [set_get] at q
                by_cases y : i = j ∧ j < e1.length
                · rw [if_pos y] at q
                  cases q
                · rw [if_neg y] at q
                  obtain ⟨v, a1, a2⟩ := R1.im j d q
                  exact ⟨v, a1, dp_same s1 a2⟩
              · rw [set_get] at q
                by_cases y : i = j ∧ j < e1.length
                · rw [if_pos y] at q
                  cases q
                  rw [← y.1]
                  exact ⟨p0, ws', o1, gp, hp, dc, o5⟩
                · rw [if_neg y] at q
                  obtain ⟨p', w', a1, a2, a3, a4, a5⟩ := R1.ac j dj q
                  have ne : p' ≠ p0 := fun y2 => by
                    rw [y2] at a1
                    have := R1.inj i j c dj p0 h3 q o1 a1
                    exact y ⟨this, by rw [← this]; exact hl⟩
                  exact ⟨p', w', a1, nw p' a2 (by rw [a3]; simp), s3 p' _ a3 ne, dpAll_same s1 a4, a5⟩
              · have old : ∀ {j : Nat} {dj : List PyData}, (e1.set i (some (.ac c')))[j]? = some (some (.ac dj)) → ∃ dj', e1[j]? = some (some (.ac dj')) := fun {j dj} z => by
                  rw [set_get] at z
                  by_cases y : i = j ∧ j < e1.length
                  · exact ⟨c, by rw [← y.1]; exact h3⟩
                  · rw [if_neg y] at z
                    exact ⟨dj, z⟩
                obtain ⟨d1, b1⟩ := old q1
                obtain ⟨d2, b2⟩ := old q2
                exact R1.inj j k d1 d2 p' b1 b2 q3 q4
              · rw [set_get] at q
                by_cases y : i = j ∧ j < e1.length
                · rw [if_pos y] at q
                  cases q
                  exact True.intro
                · rw [if_neg y] at q
                  exact (R1.ot j dss q).mono s1
            obtain ⟨V2, N2⟩ := R1.vrf vr
            have V3 : Vr X.K E G' H' σ (e1.set i (some (.ac c'))) v r := by
              cases r with
              | im d => exact V2
              | br _ => exact vr.elim
              | ac cs =>
                obtain ⟨p', w', f1, f2, f3, f4, f5, f6⟩ := V2
                exact ⟨p', w', f1, f2, f3, f4, f5, fun z => f6 ((own_kd S2.kd).mp z)⟩
            exact P v G' H' R2 (S1.trans S2) V3 (nw_back S1 v N2)
      cases h4 : φ c (ds ++ dds) with
      | none => simp only [h4] at q; cases q
      | some z =>
        obtain ⟨r, c'⟩ := z
        cases r with
        | im d =>
          simp only [h4, Option.some.injEq, Prod.mk.injEq] at q
          exact main _ _ h4 q
        | ac d =>
          simp only [h4, Option.some.injEq, Prod.mk.injEq] at q
          exact main _ _ h4 q
        | br d => simp only [h4] at q; cases q
    · cases q
  · cases q
theorem ed_callM {φ : List PyData → List PyData → Option (Rs × List PyData)} (F : Kf X.prog X.w X.K X.mg X.base k x (spM X.K n φ) dvs) (hr : Room j X.A) (hk : k ≤ j) (hd : dvsD X.K dvs dds) (hn : ∀ c ds, (φ c ds).isSome = true → ds.length = n) (h : AD X (a :: es) fa) (hg : Gl X x := by rfl)
    (hdb : (x == ("__debug__" : Str)) = false := by decide) (he : starEach (a :: es) X.env = (false, eval a X.env) :: starEach es X.env := by rfl) (hpl : (backTo pos (starEach es X.env)).any (·.1) = false := by rfl) :
    ED X (.Call (.Name x p) (a :: es) [] pos) (x_callM φ dds fa) := by
  obtain ⟨f, fd, ps, ds, F, hm, kp, hb, hv⟩ := F
  obtain ⟨t, pa, kk⟩ := h
  exact ⟨_, pe_call F (hr.mono hk) hg hm kp hb hv (E := E0) (fun _ _ _ _ _ _ _ z => z.elim) pa hdb he hpl, callM_ok hd hn kk⟩
end
def finR (r : Rs) (e : Ev) : Option Rs := match r with
  | .im d => some (.im d)
  | .ac ds => some (.ac ds)
  | .br i => (match e[i]? with
    | some (some (.ac ds)) => some (.ac ds)
    | _ => none)
def env0 (ds : List PyData) (nl : Nat) : Ev := ds.map (fun d => some (Sl.im d)) ++ List.replicate nl none
def runF (n nl : Nat) (g : Fs) (ds : List PyData) : Option Rs := if ds.length = n then (match g (env0 ds nl) with
  | some (.rt r e) => finR r e
  | some (.nx _) => some (.im .none)
  | _ => none) else none
def envM (c : List PyData) (ds : List PyData) (nl : Nat) : Ev := some (.ac c) :: env0 ds nl
def ownC (e : Ev) (r : Rs) : Option (Rs × List PyData) := match e with
  | some (.ac c) :: _ => some (r, c)
  | _ => none
def runM (n nl : Nat) (g : Fs) (c ds : List PyData) : Option (Rs × List PyData) := if ds.length = n then (match g (envM c ds nl) with
  | some (.rt (.im d) e) => ownC e (.im d)
  | some (.rt (.ac d) e) => ownC e (.ac d)
  | some (.nx e) => ownC e (.im .none)
  | _ => none) else none
theorem runF_len {n nl : Nat} {g : Fs} : ∀ ds, (runF n nl g ds).isSome = true → ds.length = n := fun ds h => by
  unfold runF at h
  by_cases z : ds.length = n
  · exact z
  · rw [if_neg z] at h
    cases h
theorem runM_len {n nl : Nat} {g : Fs} : ∀ c ds, (runM n nl g c ds).isSome = true → ds.length = n := fun c ds h => by
  unfold runM at h
  by_cases z : ds.length = n
  · exact z
  · rw [if_neg z] at h
    cases h
section
variable {K : PySem.W.Frag} {G H : Hp} {vs us : List V} {ds c : List PyData} {nl : Nat}
theorem env0_at {i : Nat} {s : Sl} (h : (env0 ds nl)[i]? = some (some s)) : ∃ d, ds[i]? = some d ∧ s = .im d := by
  unfold env0 at h
  by_cases hi : i < ds.length
  · rw [List.getElem?_append_left (by rw [List.length_map]; exact hi), List.getElem?_map] at h
    cases z : ds[i]? with
    | none => rw [z] at h; cases h
    | some d =>
      rw [z] at h
      cases h
      exact ⟨d, rfl, rfl⟩
  · rw [List.getElem?_append_right (by rw [List.length_map]; omega)] at h
    rw [List.getElem?_replicate] at h
    split at h
    · cases h
    · cases h
theorem st_at {i : Nat} {v : V} {N : List Str} (h : vs[i]? = some v) : (L2.start N vs)[i]? = some (some v) := by
  unfold L2.start
  have hi := (List.getElem?_eq_some_iff.mp h).1
  rw [List.getElem?_append_left (by rw [List.length_map]; exact hi), List.getElem?_map, h]
  rfl
theorem rz_start {N : List Str} (s : Same G H) (q : DpAll K G vs ds) (hl : vs.length + nl = N.length) : Rz K none (Ef.of H) G G (env0 ds nl) (L2.start N vs) H := by
  refine ⟨⟨Same.refl _, s, fun a o z _ => z, fun a z => (by cases z), fun a z _ => z, ?_, fun i d z => ?_, fun i d z => ?_, fun i j di dj p z => ?_, fun i dss z => ?_⟩, fun p z => by cases z⟩
  · unfold env0 L2.start
    simp only [List.length_append, List.length_map, List.length_replicate]
    rw [dpAll_len q] at hl ⊢
    omega
  · obtain ⟨d', z1, z2⟩ := env0_at z
    cases z2
    obtain ⟨v, z3, z4⟩ := dpAll_get q z1
    exact ⟨v, st_at z3, z4⟩
  · obtain ⟨d', z1, z2⟩ := env0_at z
    cases z2
  · obtain ⟨d', z1, z2⟩ := env0_at z
    cases z2
  · obtain ⟨d', z1, z2⟩ := env0_at z
    cases z2
    exact True.intro
theorem rz_startM {N : List Str} {p : Addr} {ws : List V} (s : Same G H) (hp : H p = some (.lst ws)) (hg : G p = none) (qc : DpAll K G ws c) (q : DpAll K G us ds) (hl : us.length + 1 + nl = N.length) : Rz K (some p) (Ef.of H) G G (envM c ds nl) (L2.start N (.ref p :: us)) H := by
  have z0 : (L2.start N (V.ref p :: us))[0]? = some (some (.ref p)) := st_at rfl
  refine ⟨⟨Same.refl _, s, fun a o z _ => z, fun a z => ?_, fun a z _ => z, ?_, fun i d z => ?_, fun i d z => ?_, fun i j di dj p' z1 z2 => ?_, fun i dss z => ?_⟩, fun p' z => ?_⟩
  · cases z
    have ne : H p ≠ none := by rw [hp]; simp
    exact ⟨ne, ne⟩
  · unfold envM env0 L2.start
    simp only [List.length_append, List.length_map, List.length_replicate, List.length_cons]
    rw [dpAll_len q] at hl ⊢
    omega
  · cases i with
    | zero => cases z
    | succ i =>
      obtain ⟨d', z1, z2⟩ := env0_at (i := i) (by simpa [envM] using z)
      cases z2
      obtain ⟨v, z3, z4⟩ := dpAll_get q z1
      exact ⟨v, st_at (by simpa using z3), z4⟩
  · cases i with
    | zero =>
      cases z
      exact ⟨p, ws, z0, hg, hp, qc, .inr ⟨rfl, rfl⟩⟩
    | succ i =>
      obtain ⟨d', z1, z2⟩ := env0_at (i := i) (by simpa [envM] using z)
      cases z2
  · have no : ∀ {i : Nat} {d : List PyData}, (envM c ds nl)[i]? = some (some (.ac d)) → i = 0 := fun {i d} z => by
      cases i with
      | zero => rfl
      | succ i =>
        obtain ⟨d', z1, z2⟩ := env0_at (i := i) (by simpa [envM] using z)
        cases z2
    rw [no z1, no z2]
    intros
    rfl
  · cases i with
    | zero =>
      cases z
      exact True.intro
    | succ i =>
      obtain ⟨d', z1, z2⟩ := env0_at (i := i) (by simpa [envM] using z)
      cases z2
      exact True.intro
  · cases z
    exact ⟨rfl, z0⟩
end
section
variable {P : Program} {w : World} {K : PySem.W.Frag} {mg : Str → Option Value} {base : Heap} {x qual : Str} {params : Arguments} {body : List Stmt} {scope : Scope} {dvs : List V} {kws : List (Str × V)} {f : Addr} {fd : FuncData} {N ps : List Str} {k n nl : Nat} {g : Fs}
theorem fnD (F : FunD K x qual params body scope dvs kws f fd) (S : FnScope N ps scope) (hp : ps.length = n) (hl : n + nl = N.length)
    (hb : ∀ (cdv : Value) (A : Around) (outer : List Env) (s : Shared) (H : Hp) (E : XK), Room k (A.deeper (envOfC qual scope s.heap.objs.size f cdv)) → SsD (cxOf CX0 P w K mg base N qual scope f cdv A outer s H E).nox body g) :
    FnOk P w K mg base CX0 (k + 1) f fd ps (spD K n (runF n nl g)) := by
  refine F.ok S (fun vs H Q E h => ?_) fun cdv A outer s H vs Q E hr h => ?_
  · obtain ⟨_, _, _, _, _, h, _⟩ := h
    rw [h, hp]
  · obtain ⟨t, pt, kt⟩ := hb cdv A outer s H E hr
    obtain ⟨G, ds, r, s1, hd, hv, hr2, hQ⟩ := h
    refine ⟨t, pt.nox, ?_⟩
    have Rz0 : Rz K none (Ef.of H) G G (env0 ds nl) (L2.start N vs) H := rz_start s1 hd (by omega)
    unfold runF at hr2
    rw [if_pos (by rw [← dpAll_len hd]; exact hv)] at hr2
    split at hr2
    · rename_i r' e' h1
      refine kt none (Ef.of H) G G _ _ H _ _ Rz0 h1 fun v G' σ' H' s2 R' V' => ?_
      have hh : Same H H' := fun a o z => R'.r.eh a o z (by simp)
      have nw : ∀ a, G a = none → H a ≠ none → G' a = none := R'.r.nw
      refine hQ v G' H' s2 R'.r.gh hh nw ?_
      unfold finR at hr2
      cases r' with
      | im d =>
        cases hr2
        exact V'
      | ac d =>
        cases hr2
        obtain ⟨p, ws, a1, a2, a3, a4, a5, _⟩ := V'
        exact ⟨p, ws, a1, a2, a3, a4, a5⟩
      | br i =>
        dsimp only at hr2
        split at hr2
        · rename_i d h2
          cases hr2
          obtain ⟨d', b1, b2⟩ := V'
          obtain ⟨p, ws, a1, a2, a3, a4, a5⟩ := R'.r.ac i d h2
          rw [a1] at b2
          cases b2
          have a5 : H p = none := by
            rcases a5 with a5 | a5
            · exact a5
            · cases a5.1
          exact ⟨p, ws, rfl, a5, a2, a3, a4⟩
        · cases hr2
    · rename_i e' h1
      cases hr2
      refine kt none (Ef.of H) G G _ _ H _ _ Rz0 h1 fun G' σ' H' s2 R' => ?_
      exact hQ .non G' H' s2 R'.r.gh (fun a o z => R'.r.eh a o z (by simp)) R'.r.nw .non
    · cases hr2
theorem fnM (F : FunD K x qual params body scope dvs kws f fd) (S : FnScope N ps scope) (hp : ps.length = n + 1) (hl : n + 1 + nl = N.length)
    (hb : ∀ (cdv : Value) (A : Around) (outer : List Env) (s : Shared) (H : Hp) (E : XK), Room k (A.deeper (envOfC qual scope s.heap.objs.size f cdv)) → SsD (cxOf CX0 P w K mg base N qual scope f cdv A outer s H E).nox body g) :
    FnOk P w K mg base CX0 (k + 1) f fd ps (spM K n (runM n nl g)) := by
  refine F.ok S (fun vs H Q E h => ?_) fun cdv A outer s H vs Q E hr h => ?_
  · obtain ⟨_, _, _, _, _, _, _, _, _, h, _, _, _, _, h2, _⟩ := h
    rw [h, List.length_cons, h2, hp]
  · obtain ⟨t, pt, kt⟩ := hb cdv A outer s H E hr
    obtain ⟨G, p, ws, c, us, ds, r, c', s1, rfl, h1, h2, h3, h4, h5, h6, hQ⟩ := h
    refine ⟨t, pt.nox, ?_⟩
    have Rz0 : Rz K (some p) (Ef.of H) G G (envM c ds nl) (L2.start N (.ref p :: us)) H := rz_startM s1 h1 h2 h3 h4 (by omega)
    unfold runM at h6
    rw [if_pos (by rw [← dpAll_len h4]; exact h5)] at h6
    have fin : ∀ {v : V} {G' : Hp} {σ' : St} {H' : Hp} {e' : Ev} {r' : Rs}, Same G G' → Rz K (some p) (Ef.of H) G G' e' σ' H' → ownC e' r' = some (r, c') → VrF K G' H H' v r' → Q v H' := fun {v G' σ' H' e' r'} s2 R' oc vf => by
      unfold ownC at oc
      split at oc
      · rename_i c2 rest
        cases oc
        obtain ⟨z1, z2⟩ := R'.z p rfl
        obtain ⟨p', w', a1, a2, a3, a4, a5⟩ := R'.r.ac 0 _ (rfl : (some (Sl.ac c') :: rest)[0]? = some (some (.ac c')))
        rw [z2] at a1
        cases a1
        exact hQ v G' H' w' s2 R'.r.gh (fun a o q ne => R'.r.eh a o q fun y => ne (Option.some.inj y).symm) a3 a4 R'.r.nw vf
      · cases oc
    split at h6
    · rename_i d e' h7
      exact kt (some p) (Ef.of H) G G _ _ H _ _ Rz0 h7 fun v G' σ' H' s2 R' V' => fin s2 R' h6 V'
    · rename_i d e' h7
      refine kt (some p) (Ef.of H) G G _ _ H _ _ Rz0 h7 fun v G' σ' H' s2 R' V' => fin s2 R' h6 ?_
      obtain ⟨p, ws, a1, a2, a3, a4, a5, _⟩ := V'
      exact ⟨p, ws, a1, a2, a3, a4, a5⟩
    · rename_i e' h7
      exact kt (some p) (Ef.of H) G G _ _ H _ _ Rz0 h7 fun G' σ' H' s2 R' => fin (v := .non) s2 R' h6 .non
    · cases h6
end
end DL
namespace DL
open PySem PySem.Spec PyProof.Rows L2
end DL
namespace DL
open PySem PySem.Spec PySem.W PyProof.Rows L2 Calls
def tI (k : List Int) : PyData := .tuple (k.map PyData.int)
end DL
namespace DL
open PySem PySem.Spec PyProof.Rows L2
end DL
namespace DL
open PySem PySem.Spec PySem.W PyProof.Rows L2
theorem fold_maxI : ∀ (r : List Int) (a b : Int), r.foldl max (max a b) = max a (r.foldl max b)
  | [], _, _ => rfl
  | c :: r, a, b => by
    rw [List.foldl_cons, List.foldl_cons, show max (max a b) c = max a (max b c) by omega]
    exact fold_maxI r a (max b c)
theorem maxI_fold : ∀ (r : List Int) (a : Int), r.foldl max a = maxI (a :: r)
  | [], _ => rfl
  | b :: r, a => by
    rw [List.foldl_cons, fold_maxI, maxI_fold r b]
    rfl
theorem alikeAll_ints (ns : List Int) : AlikeAll (ns.map PyData.int) := by
  refine ⟨fun x hx y hy => ?_, fun x hx => ?_⟩
  · obtain ⟨i, _, rfl⟩ := List.mem_map.mp hx
    obtain ⟨j, _, rfl⟩ := List.mem_map.mp hy
    rfl
  · obtain ⟨i, _, rfl⟩ := List.mem_map.mp hx
    exact fun z => by cases z
section
variable {X : Cx}
def rMaxT (K : PySem.W.Frag) : List V → Hp → VK → Prop := fun vs H Q => ∃ (a : Addr) (n : Int) (ns : List Int), vs = [.ref a] ∧ SqT K H a ((n :: ns).map V.int) ∧ Q (.int (maxI (n :: ns))) H
theorem cr_maxT (hc : X.calm = true) (hu : X.A.units + 64 < cLine) : CallR X (.builtin "max") (rMaxT X.K) := by
  intro pins s σ H vs us Q I r h
  obtain ⟨a, n, ns, rfl, hs, q⟩ := h
  obtain ⟨its, rv, tp, hz⟩ := I.tuple hs
  rw [Vals.ref1 r]
  obtain ⟨as, hr⟩ := L2.Dp.readsAll I _ _ its ((dpAll_ints (n :: ns)).lib (noDict_ints _)) rv
  refine max_tuple_data (x := .int n) (xs := ns.map PyData.int) (as := as) (I.ok.hd hc) tp hr (alikeAll_ints (n :: ns)) (by
    have z := depth_ints (n :: ns)
    rw [List.map_cons] at z
    rw [z]
    omega) fun i v g tk bs _ rd hk => ?_
  rw [maxD_ints, maxI_fold] at rd
  cases rd with
  | int _ t => exact ⟨.int _, H, I.kept hk, ⟨t, rfl⟩, q⟩
end
def c_intsT (g : List Int → Option Rs) : List PyData → Option Rs
  | [.tuple ds] => (match unI ds with
    | some ns => g ns
    | none => none)
  | _ => none
theorem intsT_ok {g : List Int → Option Rs} {ds : List PyData} {r : Rs} (q : c_intsT g ds = some r) : ∃ ns, ds = [.tuple (ns.map PyData.int)] ∧ g ns = some r := by
  unfold c_intsT at q
  split at q
  · rename_i es
    split at q
    · rename_i ns h
      rw [unI_ok h]
      exact ⟨ns, rfl, q⟩
    · cases q
  · cases q
def c_maxT : List PyData → Option Rs := c_intsT fun ns => if ns.isEmpty = true then none else some (.im (.int (maxI ns)))
section
variable {K : PySem.W.Frag}
theorem lv_intsT {G H : Hp} {vs : List V} {ns : List Int} (s : Same G H) (l : LvAll K G H vs [.tuple (ns.map PyData.int)]) : ∃ p, vs = [.ref p] ∧ SqT K H p (ns.map V.int) := by
  obtain ⟨v, rfl, lv⟩ := lv1 l
  obtain ⟨p, ws, rfl, s1, k⟩ := lv.tup s
  rw [dp_ints k] at s1
  exact ⟨p, rfl, s1⟩
theorem vc_maxT : VC K (rMaxT K) c_maxT := by
  intro m E G0 G e σ H vs ds rr Q R l q P
  obtain ⟨ns, rfl, q2⟩ := intsT_ok q
  clear q
  obtain ⟨p, rfl, s1⟩ := lv_intsT R.gh l
  cases ns with
  | nil => cases q2
  | cons a r =>
    cases q2
    exact ⟨p, a, r, rfl, s1, P.now R (.int _) True.intro⟩
end
def c_maxA : List PyData → Option Rs := orC c_max c_maxT
theorem vc_maxA {K : PySem.W.Frag} : VC K (fun vs H Q => rMax K vs H Q ∨ rMaxT K vs H Q) c_maxA := VC.or vc_max vc_maxT
theorem cr_maxA {X : Cx} (hc : X.calm = true) (hu : X.A.units + 64 < cLine) : CallR X (.builtin "max") (fun vs H Q => rMax X.K vs H Q ∨ rMaxT X.K vs H Q) := CallR.or (cr_max hc) (cr_maxT hc hu)
end DL
namespace DL
open PySem PySem.Spec PySem.W PyProof.Rows L2 Calls
end DL
namespace DL
open PySem PySem.Spec PySem.W PyProof.Rows L2 Calls
end DL
namespace DL
open PySem PySem.Spec PySem.W PyProof.Rows L2
/-- fuel for a loop that goes down by the int in a slot -/
def fuI (j : Nat) (e : Ev) : Nat := match e[j]? with
  | some (some (.im (.int i))) => i.toNat + 1
  | _ => 0
/-- a def under its name, every parameter written -/
theorem kfN {P : Program} {w : World} {K : PySem.W.Frag} {mg : Str → Option Value} {base : Heap} {x qual : Str} {params : Arguments} {body : List Stmt} {scope : Scope} {kws : List (Str × V)} {f : Addr} {fd : FuncData} {k : Nat} {sp : Sp} {ps : List Str}
    (F : FunD K x qual params body scope [] kws f fd) (ok : FnOk P w K mg base CX0 k f fd ps sp) (g : mg x = some (.ref f))
    (h : ∀ (kV doc pm : Value) (an : Option Addr) (cdv ct : Value) (us : List Value), us.length = ps.length → bindArgs (PySem.W.fnOf x qual params body scope .none kV doc pm an cdv ct) ⟨us, []⟩ = pure (ps.zip us)) : Kf P w K mg base k x sp [] :=
  ⟨f, fd, ps, [], ok, g, F.kp, F.bindsN h, .nil⟩
end DL
namespace DL
open PySem PySem.Spec PySem.W PyProof.Rows L2
def nD (n : Nat) : PyData := .int (n : Int)
section
variable {i j : Int}
theorem e_add : p_add (.int i) (.int j) = some (.im (.int (i + j))) := rfl
theorem e_sub : p_sub (.int i) (.int j) = some (.im (.int (i - j))) := rfl
theorem e_eq : p_eq (.int i) (.int j) = some (.im (.bool (decide (i = j)))) := by
  show some (Rs.im (.bool (i == j))) = _
  rw [Bool.beq_eq_decide_eq]
theorem e_ne : p_ne (.int i) (.int j) = some (.im (.bool (!decide (i = j)))) := by
  show some (Rs.im (.bool (!(i == j)))) = _
  rw [Bool.beq_eq_decide_eq]
theorem e_mod (h : 0 < j) : p_mod (.int i) (.int j) = some (.im (.int (i % j))) := by
  show ((if decide (0 < j) = true then some (PyData.int (i % j)) else none).map Rs.im) = _
  rw [if_pos (decide_eq_true h)]
  rfl
theorem e_divW (h : 0 < j) (h2 : j.natAbs.log2 < 9000) : p_div (.int i) (.int j) = some (.im (.int (i / j))) := by
  show ((if divC i j = true then some (PyData.int (i / j)) else none).map Rs.im) = _
  rw [show divC i j = true from decide_eq_true ⟨h, h2⟩]
  rfl
theorem log_few {j : Int} (h : 0 < j) (h2 : j < 1073741824) : j.natAbs.log2 < 9000 := Nat.lt_trans ((Nat.log2_lt (by omega)).mpr (show j.natAbs < 2 ^ 30 by omega)) (by decide)
theorem e_div (h : 0 < j) (h2 : j < 1073741824) : p_div (.int i) (.int j) = some (.im (.int (i / j))) := e_divW h (log_few h h2)
theorem e_mul (h : (-18446744073709551616 < i ∧ i < 18446744073709551616) ∨ (-18446744073709551616 < j ∧ j < 18446744073709551616)) : p_mul (.int i) (.int j) = some (.im (.int (i * j))) := by
  unfold p_mul orF
  have e : (d_int2 (fun i j => .int (i * j)) mulC (.int i) (.int j)).map Rs.im = some (.im (.int (i * j))) := by
    show ((if mulC i j = true then some (PyData.int (i * j)) else none).map Rs.im) = _
    rw [show mulC i j = true from decide_eq_true h]
    rfl
  simp only [e]
end
theorem okLen_yes {n : Nat} (h : n ≤ 16777216) : okLen n = true := decide_eq_true h
theorem e_cat {a b : List PyData} (h : a.length + b.length ≤ 16777216) : p_add (.list a) (.list b) = some (.ac (a ++ b)) := by
  show orF _ (orF q_cat q_catT) (.list a) (.list b) = _
  have e : q_cat (.list a) (.list b) = some (.ac (a ++ b)) := if_pos (okLen_yes h)
  simp only [orF, d_int2, Option.map_none, e]
theorem e_catT {a b : List PyData} (h : a.length + b.length ≤ 16777216) : p_add (.tuple a) (.tuple b) = some (.im (.tuple (a ++ b))) := by
  show orF _ (orF q_cat q_catT) (.tuple a) (.tuple b) = _
  have e : q_catT (.tuple a) (.tuple b) = some (.im (.tuple (a ++ b))) := if_pos (okLen_yes h)
  simp only [orF, d_int2, Option.map_none, q_cat, e]
theorem atI_nat {α : Type} (ds : List α) (j : Nat) : atI ds (j : Int) = ds[j]? := by
  unfold atI ixN
  rw [if_pos (by omega)]
  by_cases h : j < ds.length
  · rw [if_pos (by omega)]
    simp
  · rw [if_neg (by omega), List.getElem?_eq_none (by omega)]
    rfl
theorem ixN_nat {n j : Nat} (h : j < n) : ixN n (j : Int) = some j := by
  unfold ixN
  rw [if_pos (by omega), if_pos (by omega)]
  simp
theorem unI_ints : ∀ (ns : List Int), unI (ns.map PyData.int) = some ns
  | [] => rfl
  | n :: ns => by
    show (unI (ns.map PyData.int)).map (n :: ·) = _
    rw [unI_ints ns]
    rfl
theorem rest_wipe (e : Ev) (vs : List Nat) : restE e (wipeE e vs) vs = e := by
  refine List.ext_getElem? fun j => ?_
  by_cases h : j ∈ vs
  · rw [restE_in (wipeE_len vs) h]
  · rw [restE_out h, wipeE_out h]
end DL
namespace DL
open PySem PySem.Spec PySem.W PyProof.Rows L2
theorem r_x_var (i : Nat) (e : Ev) : x_var i e = (match e[i]? with
  | some (some (.im d)) => some (.im d, e)
  | some (some (.ac _)) => some (.br i, e)
  | _ => none) := of_eq_true (eq_self _)
theorem r_two (fa fb : Fe) (e : Ev) : two fa fb e = (match fa e with
  | some (ra, e1) => (match fb e1 with
    | some (rb, e2) => some (frzR ra, frzR rb, e2)
    | none => none)
  | none => none) := of_eq_true (eq_self _)
theorem r_x_bin (φ : PyData → PyData → Option Rs) (fa fb : Fe) (e : Ev) : x_bin φ fa fb e = (match two fa fb e with
  | some p => (match look2 p with
    | some (a, b, e2) => (match φ a b with
      | some r => some (r, e2)
      | none => none)
    | none => none)
  | none => none) := of_eq_true (eq_self _)
theorem r_t_of (f : Fe) (e : Ev) : t_of f e = (match f e with
  | some (.im (.bool b), e1) => some (b, e1)
  | _ => none) := of_eq_true (eq_self _)
theorem r_t_not (f : Ft) (e : Ev) : t_not f e = (match f e with
  | some (b, e1) => some (!b, e1)
  | none => none) := of_eq_true (eq_self _)
theorem r_t_and (f g : Ft) (e : Ev) : t_and f g e = (match f e with
  | some (true, e1) => g e1
  | some (false, e1) => some (false, e1)
  | none => none) := of_eq_true (eq_self _)
theorem r_t_or (f g : Ft) (e : Ev) : t_or f g e = (match f e with
  | some (true, e1) => some (true, e1)
  | some (false, e1) => g e1
  | none => none) := of_eq_true (eq_self _)
theorem r_x_and (f g : Fe) (e : Ev) : x_and f g e = (match f e with
  | some (.im (.bool true), e1) => g e1
  | some (.im (.bool false), e1) => some (.im (.bool false), e1)
  | _ => none) := of_eq_true (eq_self _)
theorem r_x_not (f : Fe) (e : Ev) : x_not f e = (match f e with
  | some (.im (.bool b), e1) => some (.im (.bool !b), e1)
  | _ => none) := of_eq_true (eq_self _)
theorem r_x_if (c : Ft) (f g : Fe) (e : Ev) : x_if c f g e = (match c e with
  | some (true, e1) => f e1
  | some (false, e1) => g e1
  | none => none) := of_eq_true (eq_self _)
theorem r_a_cons (fa : Fe) (fr : Fa) (e : Ev) : a_cons fa fr e = (match fa e with
  | some (r, e1) => (match fr e1 with
    | some (rs, e2) => some (frzR r :: rs, e2)
    | none => none)
  | none => none) := of_eq_true (eq_self _)
theorem r_argsD (fa : Fa) (e : Ev) : argsD fa e = (match fa e with
  | some (rs, e1) => (match lookAll e1 rs with
    | some ds => some (ds, e1)
    | none => none)
  | none => none) := of_eq_true (eq_self _)
theorem r_argsI (fa : Fa) (e : Ev) : argsI fa e = (match fa e with
  | some (rs, e1) => (match imAll rs with
    | some ds => some (ds, e1)
    | none => none)
  | none => none) := of_eq_true (eq_self _)
theorem r_x_tup (fa : Fa) (e : Ev) : x_tup fa e = (match argsI fa e with
  | some (ds, e1) => if okLen ds.length = true then some (.im (.tuple ds), e1) else none
  | none => none) := of_eq_true (eq_self _)
theorem r_x_lst (fa : Fa) (e : Ev) : x_lst fa e = (match argsI fa e with
  | some (ds, e1) => if okLen ds.length = true then some (.ac ds, e1) else none
  | none => none) := of_eq_true (eq_self _)
theorem r_o_at (f : Fe) (e : Ev) : o_at f e = (match f e with
  | some (.im (.int i), e1) => some (some i, e1)
  | _ => none) := of_eq_true (eq_self _)
theorem r_x_sl (fa : Fe) (fl fh : Fo) (e : Ev) : x_sl fa fl fh e = (match fa e with
  | some (r, e1) => (match fl e1 with
    | some (lo, e2) => (match fh e2 with
      | some (hi, e3) => (match lookR e3 (frzR r) with
        | some d => (match sliced lo hi d with
          | some r2 => some (r2, e3)
          | none => none)
        | none => none)
      | none => none)
    | none => none)
  | none => none) := of_eq_true (eq_self _)
theorem r_x_neg (fa : Fe) (e : Ev) : x_neg fa e = (match fa e with
  | some (.im (.int i), e1) => some (.im (.int (-i)), e1)
  | _ => none) := of_eq_true (eq_self _)
theorem r_x_cb (φ : List PyData → Option Rs) (fa : Fa) (e : Ev) : x_cb φ fa e = (match argsD fa e with
  | some (ds, e1) => (match φ ds with
    | some r => some (r, e1)
    | none => none)
  | none => none) := of_eq_true (eq_self _)
theorem r_x_isi (T : Ty) (f : Fe) (e : Ev) : x_isi T f e = (match f e with
  | some (r, e1) => (match lookR e1 (frzR r) with
    | some d => (match isD T d with
      | some b => some (.im (.bool b), e1)
      | none => none)
    | none => none)
  | none => none) := of_eq_true (eq_self _)
theorem r_i_seq (f : Fe) (e : Ev) : i_seq f e = (match f e with
  | some (r, e1) => (match frzR r with
    | .im (.list ds) => some (ds, e1)
    | .im (.tuple ds) => some (ds, e1)
    | _ => none)
  | none => none) := of_eq_true (eq_self _)
theorem r_i_rng1 (fa : Fe) (e : Ev) : i_rng1 fa e = (match fa e with
  | some (.im (.int j), e1) => if rgC j = true then some (rngD 0 j.toNat 1, e1) else none
  | _ => none) := of_eq_true (eq_self _)
theorem r_i_rng2 (fa fb : Fe) (e : Ev) : i_rng2 fa fb e = (match fa e with
  | some (.im (.int i), e1) => (match fb e1 with
    | some (.im (.int j), e2) => if (rgC i && rgC j) = true then some (rngD i (j - i).toNat 1, e2) else none
    | _ => none)
  | _ => none) := of_eq_true (eq_self _)
theorem r_i_zip (fa fb : Fe) (e : Ev) : i_zip fa fb e = (match two fa fb e with
  | some (.im (.list xs), .im (.list ys), e1) => some (zipD xs ys, e1)
  | some (.im (.tuple xs), .im (.tuple ys), e1) => some (zipD xs ys, e1)
  | _ => none) := of_eq_true (eq_self _)
theorem r_s_seq (f g : Fs) (e : Ev) : s_seq f g e = (match f e with
  | some (.nx e1) => g e1
  | some x => some x
  | none => none) := of_eq_true (eq_self _)
theorem r_s_drop (f : Fe) (e : Ev) : s_drop f e = (match f e with
  | some (_, e1) => some (.nx e1)
  | none => none) := of_eq_true (eq_self _)
theorem r_s_ret (f : Fe) (e : Ev) : s_ret f e = (match f e with
  | some (r, e1) => some (.rt r e1)
  | none => none) := of_eq_true (eq_self _)
theorem r_s_if (c : Ft) (f g : Fs) (e : Ev) : s_if c f g e = (match c e with
  | some (true, e1) => f e1
  | some (false, e1) => g e1
  | none => none) := of_eq_true (eq_self _)
theorem r_s_set (i : Nat) (f : Fe) (e : Ev) : s_set i f e = (match f e with
  | some (r, e1) => if okS [i] e1 = true then (match putA i e1 r with
    | some e2 => some (.nx e2)
    | none => none) else none
  | none => none) := of_eq_true (eq_self _)
theorem r_s_for (fi : Fi) (γ : PyData → Ev → Option Ev) (S : List Nat) (fb : Fs) (e : Ev) : s_for fi γ S fb e = (match fi e with
  | some (ds, e1) => forGo γ S fb ds e1
  | none => none) := of_eq_true (eq_self _)
theorem r_x_app (i : Nat) (fa : Fe) (e : Ev) : x_app i fa e = (if isAc e[i]? = true then (match fa e with
  | some (r, e1) => (match imR (frzR r), e1[i]? with
    | some d, some (some (.ac ds)) => if okLen (ds.length + 1) = true then some (.im .none, e1.set i (some (.ac (ds ++ [d])))) else none
    | _, _ => none)
  | none => none) else none) := of_eq_true (eq_self _)
theorem r_s_put (i : Nat) (fv fk : Fe) (e : Ev) : s_put i fv fk e = (match fv e with
  | some (r, e1) => if isAc e1[i]? = true then (match imR (frzR r), fk e1 with
    | some d, some (.im (.int k), e2) => (match e2[i]? with
      | some (some (.ac ds)) => (match ixN ds.length k with
        | some j => some (.nx (e2.set i (some (.ac (ds.set j d)))))
        | none => none)
      | _ => none)
    | _, _ => none) else none
  | none => none) := of_eq_true (eq_self _)
theorem r_s_augI (g : Int → Int → Int) (i : Nat) (fk fv : Fe) (e : Ev) : s_augI g i fk fv e = (if isAc e[i]? = true then (match fk e with
  | some (.im (.int k), e1) => (match e1[i]? with
    | some (some (.ac ds)) => (match atI ds k, fv e1 with
      | some (.int a), some (.im (.int b), e2) => (match e2[i]? with
        | some (some (.ac ds2)) => (match ixN ds2.length k with
          | some j => some (.nx (e2.set i (some (.ac (ds2.set j (.int (g a b)))))))
          | none => none)
        | _ => none)
      | _, _ => none)
    | _ => none)
  | _ => none) else none) := of_eq_true (eq_self _)
theorem r_s_aug (g : Int → Int → Int) (i : Nat) (fv : Fe) (e : Ev) : s_aug g i fv e = (match e[i]? with
  | some (some (.im (.int a))) => (match fv e with
    | some (.im (.int b), e1) => if okS [i] e1 = true then some (.nx (e1.set i (some (.im (.int (g a b)))))) else none
    | _ => none)
  | _ => none) := of_eq_true (eq_self _)
theorem r_s_asg (γ : PyData → Ev → Option Ev) (S : List Nat) (f : Fe) (e : Ev) : s_asg γ S f e = (match f e with
  | some (r, e1) => if okS S e1 = true then (match imR (frzR r) with
    | some d => (match γ d e1 with
      | some e2 => some (.nx e2)
      | none => none)
    | none => none) else none
  | none => none) := of_eq_true (eq_self _)
theorem r_x_call (φ : List PyData → Option Rs) (dds : List PyData) (fa : Fa) (e : Ev) : x_call φ dds fa e = (match argsI fa e with
  | some (ds, e1) => (match φ (ds ++ dds) with
    | some (.im d) => some (.im d, e1)
    | some (.ac cs) => some (.ac cs, e1)
    | _ => none)
  | none => none) := of_eq_true (eq_self _)
theorem r_x_callM (φ : List PyData → List PyData → Option (Rs × List PyData)) (dds : List PyData) (fa : Fa) (e : Ev) : x_callM φ dds fa e = (match fa e with
  | some (.br i :: rs, e1) => (match imAll rs, e1[i]? with
    | some ds, some (some (.ac c)) => (match φ c (ds ++ dds) with
      | some (.im d, c') => some (.im d, e1.set i (some (.ac c')))
      | some (.ac cs, c') => some (.ac cs, e1.set i (some (.ac c')))
      | _ => none)
    | _, _ => none)
  | _ => none) := of_eq_true (eq_self _)
theorem r_s_setF (i : Nat) (f : Fe) (e : Ev) : s_setF i f e = (match f e with
  | some (r, e1) => if okS [i] e1 = true then (match putA i e1 (frzR r) with
    | some e2 => some (.nx e2)
    | none => none) else none
  | none => none) := by
  unfold s_setF s_set
  cases h : f e with
  | none => simp only [h]
  | some z => simp only [h] <;> rfl
end DL
namespace DL
open PySem PySem.Spec PySem.W PyProof.Rows L2
section
variable {f g : Fs} {e e1 : Ev} {r : Rs} {o : Option Fl} {x : Fe} {ds : List PyData} {fi : Fi} {γ : PyData → Ev → Option Ev} {S : List Nat} {fb : Fs} {c : Ft} {b : Bool} {n nl : Nat} {r' : Rs}
theorem sq (h : f e = some (.nx e1)) (k : g e1 = o) : s_seq f g e = o := by
  rw [r_s_seq, h]
  exact k
theorem ifT (h : c e = some (true, e1)) (k : f e1 = o) : s_if c f g e = o := by
  rw [r_s_if, h]
  exact k
theorem ifF (h : c e = some (false, e1)) (k : g e1 = o) : s_if c f g e = o := by
  rw [r_s_if, h]
  exact k
theorem sf (h : fi e = some (ds, e1)) (k : forGo γ S fb ds e1 = o) : s_for fi γ S fb e = o := by
  rw [r_s_for, h]
  exact k
theorem ret (h : x e = some (r, e1)) : s_ret x e = some (.rt r e1) := by
  rw [r_s_ret, h]
theorem setF {i : Nat} {d : PyData} (h : x e = some (r, e1)) (ok : okS [i] e1 = true) (hr : frzR r = .im d) : s_setF i x e = some (.nx (e1.set i (some (.im d)))) := by
  rw [r_s_setF, h]
  simp only [ok, hr, putA]
  rfl
theorem setX {i : Nat} {e2 : Ev} (h : x e = some (r, e1)) (ok : okS [i] e1 = true) (hr : putA i e1 r = some e2) : s_set i x e = some (.nx e2) := by
  rw [r_s_set, h]
  simp only [ok, hr]
  rfl
theorem drop (h : x e = some (r, e1)) : s_drop x e = some (.nx e1) := by
  rw [r_s_drop, h]
theorem iseqA (h : x e = some (.ac ds, e1)) : i_seq x e = some (ds, e1) := by
  simp [r_i_seq, h, frzR]
theorem iseqL (h : x e = some (.im (.list ds), e1)) : i_seq x e = some (ds, e1) := by
  simp [r_i_seq, h, frzR]
theorem iseqT (h : x e = some (.im (.tuple ds), e1)) : i_seq x e = some (ds, e1) := by
  simp [r_i_seq, h, frzR]
theorem bang (h : x e = some (.im (.bool b), e1)) : t_of x e = some (b, e1) := by
  rw [r_t_of, h]
end
theorem callI {φ : List PyData → Option Rs} {dds ds ds' : List PyData} {fa : Fa} {e e1 : Ev} {d : PyData} (ha : argsI fa e = some (ds, e1)) (hd : ds ++ dds = ds') (h : φ ds' = some (.im d)) : x_call φ dds fa e = some (.im d, e1) := by
  rw [r_x_call, ha]
  simp only [hd, h]
theorem callA {φ : List PyData → Option Rs} {dds ds ds' cs : List PyData} {fa : Fa} {e e1 : Ev} (ha : argsI fa e = some (ds, e1)) (hd : ds ++ dds = ds') (h : φ ds' = some (.ac cs)) : x_call φ dds fa e = some (.ac cs, e1) := by
  rw [r_x_call, ha]
  simp only [hd, h]
theorem a0 {e : Ev} : argsI a_nil e = some ([], e) := rfl
theorem aI {f : Fe} {fa : Fa} {e e1 e2 : Ev} {d : PyData} {ds : List PyData} (h : f e = some (.im d, e1)) (k : argsI fa e1 = some (ds, e2)) : argsI (a_cons f fa) e = some (d :: ds, e2) := by
  rw [r_argsI] at k ⊢
  rw [r_a_cons, h]
  cases z : fa e1 with
  | none => rw [z] at k; cases k
  | some p =>
    obtain ⟨rs, e3⟩ := p
    rw [z] at k
    cases y : imAll rs with
    | none => simp only [y] at k; cases k
    | some es =>
      simp only [y, Option.some.injEq, Prod.mk.injEq] at k
      obtain ⟨rfl, rfl⟩ := k
      simp only [z, imAll, frzR, imR, y]
theorem aA {f : Fe} {fa : Fa} {e e1 e2 : Ev} {cs : List PyData} {ds : List PyData} (h : f e = some (.ac cs, e1)) (k : argsI fa e1 = some (ds, e2)) : argsI (a_cons f fa) e = some (.list cs :: ds, e2) := by
  rw [r_argsI] at k ⊢
  rw [r_a_cons, h]
  cases z : fa e1 with
  | none => rw [z] at k; cases k
  | some p =>
    obtain ⟨rs, e3⟩ := p
    rw [z] at k
    cases y : imAll rs with
    | none => simp only [y] at k; cases k
    | some es =>
      simp only [y, Option.some.injEq, Prod.mk.injEq] at k
      obtain ⟨rfl, rfl⟩ := k
      simp only [z, imAll, frzR, imR, y]
theorem vI {i : Nat} {e : Ev} {d : PyData} (h : e[i]? = some (some (.im d))) : x_var i e = some (.im d, e) := by
  rw [r_x_var, h]
theorem cI {d : PyData} {e : Ev} : x_c d e = some (.im d, e) := rfl
theorem tnot {f : Ft} {e e1 : Ev} {b : Bool} (h : f e = some (b, e1)) : t_not f e = some (!b, e1) := by
  rw [r_t_not, h]
theorem rngD0 (m : Nat) : rngD 0 m 1 = (List.range m).map nD := by
  unfold rngD
  refine List.map_congr_left fun k _ => ?_
  unfold nD
  congr 1
  omega
theorem i_rng1_at {fa : Fe} {e e1 : Ev} {m : Nat} (h1 : fa e = some (.im (.int (m : Int)), e1)) (hm : m ≤ 1000000) : i_rng1 fa e = some ((List.range m).map nD, e1) := by
  rw [r_i_rng1, h1]
  have c : rgC (m : Int) = true := decide_eq_true (by omega)
  simp only [c, if_true]
  rw [show (m : Int).toNat = m by omega, rngD0]
end DL
namespace DL
open PySem PySem.Spec PyProof.Rows L2
/-- the values in the order of the parameters -/
def perm {α : Type} (π : List Nat) (xs : List α) : List α := π.filterMap fun i => xs[i]?
theorem vals_get : ∀ {vs : List V} {us : List Value} (i : Nat), Vals vs us → (∃ v u, vs[i]? = some v ∧ us[i]? = some u ∧ RelV v u) ∨ (vs[i]? = none ∧ us[i]? = none)
  | _, _, _, .nil => .inr ⟨rfl, rfl⟩
  | _, _, 0, .cons h _ => .inl ⟨_, _, rfl, rfl, h⟩
  | _, _, i + 1, .cons _ t => by simpa using vals_get i t
theorem vals_perm {vs : List V} {us : List Value} (h : Vals vs us) : ∀ π : List Nat, Vals (perm π vs) (perm π us)
  | [] => .nil
  | i :: π => by
    unfold perm
    rcases vals_get i h with ⟨v, u, h1, h2, h3⟩ | ⟨h1, h2⟩
    · rw [List.filterMap_cons_some h1, List.filterMap_cons_some h2]
      exact .cons h3 (vals_perm h π)
    · rw [List.filterMap_cons_none h1, List.filterMap_cons_none h2]
      exact vals_perm h π
theorem vals_app : ∀ {vs zs : List V} {us ws : List Value}, Vals vs us → Vals zs ws → Vals (vs ++ zs) (us ++ ws)
  | _, _, _, _, .nil, q => q
  | _, _, _, _, .cons h t, q => .cons h (vals_app t q)
theorem dpAll_perm {K : PySem.W.Frag} {G : Hp} {vs : List V} {ds : List PyData} (h : DpAll K G vs ds) : ∀ π : List Nat, DpAll K G (perm π vs) (perm π ds)
  | [] => .nil
  | i :: π => by
    unfold perm
    cases h1 : ds[i]? with
    | some d =>
      obtain ⟨v, h2, h3⟩ := dpAll_get h h1
      rw [List.filterMap_cons_some h1, List.filterMap_cons_some h2]
      exact .cons h3 (dpAll_perm h π)
    | none =>
      have h2 : vs[i]? = none := by
        rw [List.getElem?_eq_none_iff] at h1 ⊢
        rw [dpAll_len h]
        exact h1
      rw [List.filterMap_cons_none h1, List.filterMap_cons_none h2]
      exact dpAll_perm h π
/-- a def that is called with n values by place and the keywords ks -/
structure KfK (P : Program) (w : World) (K : PySem.W.Frag) (mg : Str → Option Value) (base : Heap) (k : Nat) (x : Str) (sp : Sp) (n : Nat) (ks : List Str) (π : List Nat) : Prop where
  ex : ∃ (f : Addr) (fd : FuncData) (ps : List Str), FnOk P w K mg base CX0 k f fd ps sp ∧ mg x = some (.ref f) ∧ PySem.W.keepIn K (.ref f) = true ∧ KBn K fd ps n ks (fun us ws => perm π (us ++ ws)) (fun vs zs => perm π (vs ++ zs))
theorem kbn_of {K : PySem.W.Frag} {x qual : Str} {params : Arguments} {body : List Stmt} {scope : Scope} {kws : List (Str × V)} {f : Addr} {fd : FuncData} {ps : List Str} (F : FunD K x qual params body scope [] kws f fd) (n : Nat) (ks : List Str) (π : List Nat)
    (h : ∀ (kV doc pm : Value) (an : Option Addr) (cdv ct : Value) (us ws : List Value), us.length = n → ws.length = ks.length → bindArgs (PySem.W.fnOf x qual params body scope .none kV doc pm an cdv ct) ⟨us, ks.zip ws⟩ = pure (ps.zip (perm π (us ++ ws)))) :
    KBn K fd ps n ks (fun us ws => perm π (us ++ ws)) (fun vs zs => perm π (vs ++ zs)) := by
  obtain ⟨_, _, _, kv, dc, md, an, cd, cl, _, same, _, _, noDefaults, _⟩ := F.ex
  subst same
  cases noDefaults with
  | inr some_ => exact absurd rfl some_.1
  | inl none_ =>
    obtain ⟨_, rfl⟩ := none_
    exact ⟨fun _ us ws _ n1 n2 => .of_eq (h kv dc md an cd cl us ws n1 n2), fun r1 r2 => vals_perm (vals_app r1 r2) π⟩
structure KD (X : Cx) (kws : List Keyword) (f : Fa) : Prop where
  ex : ∃ t : TA, PK X kws t ∧ ∀ (m : Option Addr) (E : Ef) (G0 G : Hp) (e : Ev) (σ : St) (H : Hp) (rs : List Rs) (e' : Ev) (Q : List V → Hp → Prop),
    Rl X.K m E G0 G e σ H → f e = some (rs, e') → (∀ vs G' H', Rl X.K m E G0 G' e' σ H' → Stp σ G H e G' H' e' → VrAll X.K E G' H' σ e' vs rs → Q vs H') → t σ H Q
section
variable {X : Cx} {a : Expr} {kws : List Keyword} {fa : Fe} {fr : Fa} {nm : Option Str} {kpos : Pos}
theorem kd_nil : KD X [] a_nil := ⟨_, pk_nil, fun m E G0 G e σ H rs e' Q R q P => by
  cases q
  exact P [] G H R Stp.refl True.intro⟩
theorem kd_cons (ha : ED X a fa) (hr : KD X kws fr) : KD X (⟨nm, a, kpos⟩ :: kws) (a_cons fa fr) := by
  obtain ⟨t, p, k⟩ := ha
  obtain ⟨t2, p2, k2⟩ := hr
  refine ⟨_, pk_cons p p2, fun m E G0 G e σ H rs e' Q R q P => ?_⟩
  unfold a_cons at q
  cases h1 : fa e with
  | none => simp only [h1] at q; cases q
  | some z =>
    obtain ⟨r, e1⟩ := z
    simp only [h1] at q
    cases h2 : fr e1 with
    | none => simp only [h2] at q; cases q
    | some z2 =>
      obtain ⟨rs2, e2⟩ := z2
      simp only [h2, Option.some.injEq, Prod.mk.injEq] at q
      obtain ⟨rfl, rfl⟩ := q
      refine k m E G0 G e σ H r e1 _ R h1 fun v G1 H1 R1 S1 V1 N1 => ?_
      obtain ⟨G1', R1', S1', s1, V1'⟩ := R1.freeze S1 V1 N1
      refine k2 m E G0 G1' e1 σ H1 rs2 e2 _ R1' h2 fun vs G2 H2 R2 S2 V2 => ?_
      exact P (v :: vs) G2 H2 R2 (S1'.trans S2) ⟨V1'.stp S2, V2⟩
end
def x_callK (φ : List PyData → Option Rs) (π : List Nat) (fa fk : Fa) : Fe := fun e => match argsI fa e with
  | some (ds, e1) => (match argsI fk e1 with
    | some (zs, e2) => (match φ (perm π (ds ++ zs)) with
      | some (.im d) => some (.im d, e2)
      | some (.ac cs) => some (.ac cs, e2)
      | _ => none)
    | none => none)
  | none => none
section
variable {X : Cx} {a : Expr} {es : List Expr} {kws : List Keyword} {fa fk : Fa} {p pos : Pos} {x : Str} {j k n m : Nat} {ks : List Str} {π : List Nat}
theorem vrAll_len {K : PySem.W.Frag} {E : Ef} {G H : Hp} {σ : St} {e : Ev} : ∀ {vs : List V} {rs : List Rs}, VrAll K E G H σ e vs rs → vs.length = rs.length
  | [], [], _ => rfl
  | _ :: _, _ :: _, h => congrArg (· + 1) (vrAll_len h.2)
  | [], _ :: _, h => h.elim
  | _ :: _, [], h => h.elim
theorem callK_ok {φ : List PyData → Option Rs} {t tk : TA} (hn : ∀ ds, (φ ds).isSome = true → ds.length = n)
    (kk : ∀ (m : Option Addr) (E : Ef) (G0 G : Hp) (e : Ev) (σ : St) (H : Hp) (rs : List Rs) (e' : Ev) (Q : List V → Hp → Prop),
    Rl X.K m E G0 G e σ H → fa e = some (rs, e') → (∀ vs G' H', Rl X.K m E G0 G' e' σ H' → Stp σ G H e G' H' e' → VrAll X.K E G' H' σ e' vs rs → Q vs H') → t σ H Q)
    (kz : ∀ (m : Option Addr) (E : Ef) (G0 G : Hp) (e : Ev) (σ : St) (H : Hp) (rs : List Rs) (e' : Ev) (Q : List V → Hp → Prop),
    Rl X.K m E G0 G e σ H → fk e = some (rs, e') → (∀ vs G' H', Rl X.K m E G0 G' e' σ H' → Stp σ G H e G' H' e' → VrAll X.K E G' H' σ e' vs rs → Q vs H') → tk σ H Q)
    (l1 : ∀ {e e' : Ev} {rs : List Rs}, fa e = some (rs, e') → rs.length = j) (l2 : ∀ {e e' : Ev} {rs : List Rs}, fk e = some (rs, e') → rs.length = k)
    (m : Option Addr) (E : Ef) (G0 G : Hp) (e : Ev) (σ : St) (H : Hp) (rr : Rs) (e' : Ev) (Q : VK) (R : Rl X.K m E G0 G e σ H) (q : x_callK φ π fa fk e = some (rr, e')) (P : Po X.K m E G0 σ G H e rr e' Q) :
    tCallN j k (spD X.K n φ) (fun vs zs => perm π (vs ++ zs)) E0 t tk σ H Q := by
  unfold x_callK at q
  cases h1 : argsI fa e with
  | none => simp only [h1] at q; cases q
  | some z =>
    obtain ⟨ds, e1⟩ := z
    simp only [h1] at q
    obtain ⟨rs, q1, q2⟩ := argsI_ok h1
    cases h3 : argsI fk e1 with
    | none => simp only [h3] at q; cases q
    | some z2 =>
      obtain ⟨zs, e2⟩ := z2
      simp only [h3] at q
      obtain ⟨rs2, q3, q4⟩ := argsI_ok h3
      have main : ∀ r, φ (perm π (ds ++ zs)) = some r → r = rr ∧ e2 = e' → tCallN j k (spD X.K n φ) (fun vs zs => perm π (vs ++ zs)) E0 t tk σ H Q := fun r h2 ⟨z1, z2⟩ => by
        subst z1 z2
        refine kk m E G0 G e σ H rs e1 _ R q1 fun vs G1 H1 R1 S1 V1 => ?_
        refine kz m E G0 G1 e1 σ H1 rs2 e2 _ R1 q3 fun ws G2 H2 R2 S2 V2 => ?_
        have D1 := vr_imAll V1 q2
        have D2 := vr_imAll V2 q4
        have D3 := dpAll_perm (dpAll_app (dpAll_same S2.gg D1) D2) π
        refine ⟨(vrAll_len V1).trans (l1 q1), (vrAll_len V2).trans (l2 q3), G2, perm π (ds ++ zs), r, R2.gh, D3, ?_, h2, fun v G' H' s1 s2 s3 nw vr => ?_⟩
        · rw [dpAll_len D3]
          exact hn _ (by rw [h2]; rfl)
        · obtain ⟨R3, S3⟩ := R2.called s1 s2 s3 nw
          obtain ⟨V3, N3⟩ := R2.vrf vr
          have S12 := S1.trans S2
          exact P v G' H' R3 (S12.trans S3) V3 (nw_back S12 v N3)
      cases h2 : φ (perm π (ds ++ zs)) with
      | none => simp only [h2] at q; cases q
      | some r =>
        cases r with
        | im d =>
          simp only [h2, Option.some.injEq, Prod.mk.injEq] at q
          exact main _ h2 q
        | ac d =>
          simp only [h2, Option.some.injEq, Prod.mk.injEq] at q
          exact main _ h2 q
        | br d => simp only [h2] at q; cases q
theorem pe_callN0 {CX : CXT} {f : Addr} {fd : FuncData} {ps : List Str} {sp : Sp} {E : XK} {tk : TA} {g : List Value → List Value → List Value} {gV : List V → List V → List V} (F : FnOk X.prog X.w X.K X.mg X.base CX k f fd ps sp) (hr : Room k X.A) (hg : Gl X x) (hm : X.mg x = some (.ref f))
    (hk : PySem.W.keepIn X.K (.ref f) = true) (hb : KBn X.K fd ps 0 ks g gV) (hx : Passes CX X E) (hkw : PK X kws tk)
    (hall : (backToKw pos (keywordEach kws X.env)).all (·.1.isSome) = true) (hks : (backToKw pos (keywordEach kws X.env)).filterMap (·.1) = ks)
    (hpl : ((backTo pos (starEach [] X.env)).any (·.1) || (backToKw pos (keywordEach kws X.env)).any (·.1.isNone)) = false) (hdb : (x == ("__debug__" : Str)) = false) :
    PE X (.Call (.Name x p) [] kws pos) (tCallN 0 ks.length sp gV E tNil tk) :=
  ⟨fun pins s σ H Q I h => wpAny_Call_Name_kw (ld_glob I hg hm (PySem.W.callWith_KW0 (h₀ := X.base) I.ok.mod.kin hk hall (thn (hkw.run pos pins s σ H _ I h) fun ws s' ⟨zs, H', I', rz, len0, lenK, q⟩ =>
    ⟨I'.kIn, hks.symm ▸ run_fnN F hr hb hx I' .nil rz len0 lenK q⟩) hpl) hdb)⟩
theorem ed_callK0 {φ : List PyData → Option Rs} (F : KfK X.prog X.w X.K X.mg X.base k x (spD X.K n φ) 0 ks π) (hr : Room j X.A) (hk : k ≤ j) (hn : ∀ ds, (φ ds).isSome = true → ds.length = n) (h : KD X kws fk)
    (l2 : ∀ {e e' : Ev} {rs : List Rs}, fk e = some (rs, e') → rs.length = ks.length) (hg : Gl X x := by rfl)
    (hall : (backToKw pos (keywordEach kws X.env)).all (·.1.isSome) = true := by rfl) (hks : (backToKw pos (keywordEach kws X.env)).filterMap (·.1) = ks := by rfl)
    (hpl : ((backTo pos (starEach [] X.env)).any (·.1) || (backToKw pos (keywordEach kws X.env)).any (·.1.isNone)) = false := by rfl) (hdb : (x == ("__debug__" : Str)) = false := by decide) :
    ED X (.Call (.Name x p) [] kws pos) (x_callK φ π a_nil fk) := by
  obtain ⟨f, fd, ps, F, hm, kp, hb⟩ := F.ex
  obtain ⟨t, pk, kz⟩ := h
  refine ⟨_, pe_callN0 F (hr.mono hk) hg hm kp hb (E := E0) (fun _ _ _ _ _ _ _ z => z.elim) pk hall hks hpl hdb, callK_ok hn (fun m E G0 G e σ H rs e' Q R q P => ?_) kz (fun q => ?_) l2⟩
  · cases q
    exact P [] G H R Stp.refl True.intro
  · cases q
    rfl
theorem len_nil {e e' : Ev} {rs : List Rs} (q : a_nil e = some (rs, e')) : rs.length = 0 := by
  cases q
  rfl
theorem len_cons {fe : Fe} {fr : Fa} {n : Nat} (h : ∀ {e e' : Ev} {rs : List Rs}, fr e = some (rs, e') → rs.length = n) {e e' : Ev} {rs : List Rs} (q : a_cons fe fr e = some (rs, e')) : rs.length = n + 1 := by
  unfold a_cons at q
  split at q
  · split at q
    · rename_i z
      cases q
      exact congrArg (· + 1) (h z)
    · cases q
  · cases q
end
end DL
namespace DL
open PySem PySem.Spec PyProof.Rows L2
theorem spD_void {K : PySem.W.Frag} {n : Nat} {vs : List V} {H : Hp} {Q : VK} {E : XK} (h : spD K n (fun _ => none) vs H Q E) : False := by
  obtain ⟨_, _, _, _, _, _, h, _⟩ := h
  cases h
theorem fn_void {P : Program} {w : World} {K : PySem.W.Frag} {mg : Str → Option Value} {base : Heap} {CX : CXT} {k n : Nat} {f : Addr} {fd : FuncData} {ps : List Str} : FnOk P w K mg base CX k f fd ps (spD K n (fun _ => none)) :=
  ⟨fun _ _ _ _ h => (spD_void h).elim, by
    intros
    exact (spD_void (by assumption)).elim⟩
end DL
namespace DL
open L2 PySem PySem.Spec PySem.W PyProof.Rows
section
variable {K : PySem.W.Frag} {m : Option Addr} {E : Ef} {G0 G H H1 H2 : Hp} {e : Ev} {σ : St} {i : Nat} {p q : Addr}
/-- the frame, an object exchanged -/
def Ef.put (E : Ef) (q : Addr) (hb : E.b q = none) (o : Option HO) : Ef := ⟨fun a => if a = q then o else E.h a, E.b, fun a u z => by
  have n : a ≠ q := ne_of_none z hb
  rw [if_neg n]
  exact E.sub a u z⟩
end
end DL
namespace DL
open L2 PySem PySem.Spec PySem.W PyProof.Rows
def PoSN (K : PySem.W.Frag) (m : Option Addr) (B : Bs) (G0 G : Hp) (D : Ends) : Fl → Prop
  | .nx e => ∀ (E : Ef) G' σ H, E.b = B → Same G G' → Rz K m E G0 G' e σ H → D.nx σ H
  | .bk e => ∀ (E : Ef) G' σ H, E.b = B → Same G G' → Rz K m E G0 G' e σ H → D.bk σ H
  | .ct e => ∀ (E : Ef) G' σ H, E.b = B → Same G G' → Rz K m E G0 G' e σ H → D.ct σ H
  | .rt r e => ∀ (E : Ef) v G' σ H, E.b = B → Same G G' → Rz K m E G0 G' e σ H → Vr K E G' H σ e v r → D.rt v H
structure SDN (X : Cx) (st : Stmt) (f : Fs) : Prop where
  ex : ∃ t : TS, PS X st t ∧ ∀ (m : Option Addr) (E : Ef) (G0 G : Hp) (e : Ev) (σ : St) (H : Hp) (fl : Fl) (D : Ends),
    Rz X.K m E G0 G e σ H → f e = some fl → PoSN X.K m E.b G0 G D fl → t D σ H
section
variable {K : PySem.W.Frag} {m : Option Addr} {B : Bs} {G0 G G' H : Hp} {E : Ef} {D : Ends} {fl : Fl} {e : Ev} {σ : St}
theorem PoSN.aft (P : PoSN K m B G0 G D fl) (s : Same G G') : PoSN K m B G0 G' D fl := by
  cases fl with
  | nx e => exact fun E G2 σ H b s2 R => P E G2 σ H b (s.trans s2) R
  | bk e => exact fun E G2 σ H b s2 R => P E G2 σ H b (s.trans s2) R
  | ct e => exact fun E G2 σ H b s2 R => P E G2 σ H b (s.trans s2) R
  | rt r e => exact fun E v G2 σ H b s2 R V => P E v G2 σ H b (s.trans s2) R V
theorem PoSN.pos (P : PoSN K m E.b G0 G D fl) : PoS K m E G0 G D fl := by
  cases fl with
  | nx e => exact fun G' σ H s R => P E G' σ H rfl s R
  | bk e => exact fun G' σ H s R => P E G' σ H rfl s R
  | ct e => exact fun G' σ H s R => P E G' σ H rfl s R
  | rt r e => exact fun v G' σ H s R V => P E v G' σ H rfl s R V
end
section
variable {X : Cx} {st : Stmt} {rest sts : List Stmt} {f g : Fs} {pos : Pos} {a : Expr} {fe : Fe}
theorem SD.n (h : SD X st f) : SDN X st f := by
  obtain ⟨t, p, k⟩ := h
  exact ⟨t, p, fun m E G0 G e σ H fl D R q P => k m E G0 G e σ H fl D R q P.pos⟩
theorem SDN.fz (j : Nat) (h : SDN X st f) (hj : j ≠ 0 := by decide) : SDN X st (s_fz j f) := by
  obtain ⟨t, p, k⟩ := h
  refine ⟨_, p, fun m E G0 G e σ H fl D R q P => ?_⟩
  obtain ⟨G', s, R'⟩ := R.fz hj
  exact k m E G0 G' _ σ H fl D R' q (P.aft s)
end
section
variable {K : PySem.W.Frag} {m : Option Addr} {E : Ef} {G0 G H : Hp} {e : Ev} {σ : St} {i : Nat}
/-- slot i is not the caller's list -/
theorem Rz.set (R : Rz K m E G0 G e σ H) {E' : Ef} {G' H' : Hp} {s : Option Sl} (ok : okS [i] e = true) (R' : Rl K m E' G0 G' (e.set i s) σ H') : Rz K m E' G0 G' (e.set i s) σ H' :=
  ⟨R', fun p z => by
    obtain ⟨z1, z2⟩ := R.z p z
    have n : i ≠ 0 := fun y => okS_no ok z1 (by rw [y]; exact List.mem_singleton.mpr rfl)
    rw [List.getElem?_set_ne n]
    exact ⟨z1, z2⟩⟩
end
end DL
namespace DL
open L2 PySem PySem.Spec PySem.W PyProof.Rows
end DL
namespace DL
open L2 PySem PySem.Spec PySem.W PyProof.Rows
end DL
namespace DL
open L2 PySem PySem.Spec PySem.W PyProof.Rows
end DL
namespace DL
open L2 PySem PySem.Spec PySem.W PyProof.Rows
def isNoneD : PyData → Bool
  | .none => true
  | _ => false
theorem notNone {d : PyData} (h : (!isNoneD d) = true) : d ≠ .none := fun z => by
  rw [z] at h
  cases h
def okOrd (a b : PyData) : Bool := (alike a b && (noDict a && noDict b)) && (!isNoneD a && decide (a.depth ≤ 64))
def d_ord (f : PyData → PyData → Bool) (a b : PyData) : Option PyData := if okOrd a b = true then some (.bool (f a b)) else none
def rOrd (K : PySem.W.Frag) (f : PyData → PyData → Bool) : R2 := fun x y H Q => ∃ a b, Dp K H x a ∧ Dp K H y b ∧ okOrd a b = true ∧ Q (.bl (f a b)) H
def q_lt : PyData → PyData → Option Rs := orF p_lt fun a b => (d_ord (fun a b => dataLt a b) a b).map Rs.im
def q_gt : PyData → PyData → Option Rs := orF p_gt fun a b => (d_ord (fun a b => dataLt b a) a b).map Rs.im
def q_ge : PyData → PyData → Option Rs := orF p_ge fun a b => (d_ord (fun a b => !dataLt a b) a b).map Rs.im
theorem vb_ord {K : PySem.W.Frag} {f : PyData → PyData → Bool} : VB K (rOrd K f) (fun a b => (d_ord f a b).map Rs.im) := VB.pure fun G H x y dx dy d Q s lx ly q P => by
  unfold d_ord at q
  by_cases z : okOrd dx dy = true
  · rw [if_pos z] at q
    cases q
    exact ⟨dx, dy, lx.dp s, ly.dp s, z, P _ (.bl _)⟩
  · rw [if_neg z] at q
    cases q
section
variable {X : Cx}
theorem ord_ok {a b : PyData} (h : okOrd a b = true) : alike a b = true ∧ a ≠ .none ∧ a.depth ≤ 64 ∧ noDict a = true ∧ noDict b = true := by
  unfold okOrd at h
  simp only [Bool.and_eq_true] at h
  exact ⟨h.1.1, notNone h.2.1, of_decide_eq_true h.2.2, h.1.2.1, h.1.2.2⟩
theorem op_ord {op : CmpOp} {f : PyData → PyData → Bool} (hu : X.A.units + 64 < cLine)
    (k : ∀ {s : Shared} {a b : Value} {da db : PyData} {as bs : List Addr} {Q : Value → Shared → Prop}, Reads s.heap a da as → Reads s.heap b db bs → alike da db = true → da ≠ .none → X.A.units + min da.depth db.depth < cLine → Q (.bool (f da db)) s → wpAny (model X.prog X.w) X.A (compareOp op a b) Q X.xe s) :
    OpR X (compareOp op) (rOrd X.K f) := by
  rintro pins s σ H x y v u Q I rx ry ⟨a, b, hx, hy, ok, q⟩
  obtain ⟨o1, o2, o3, o4, o5⟩ := ord_ok ok
  obtain ⟨as, ra⟩ := L2.Dp.reads I a x v (hx.lib o4) rx
  obtain ⟨bs, rb⟩ := L2.Dp.reads I b y u (hy.lib o5) ry
  exact k ra rb o1 o2 (by omega) ⟨.bl _, H, I, rfl, q⟩
theorem vq_lt : VB X.K (fun x y H Q => (rI0 fun i j => .bl (decide (i < j))) x y H Q ∨ rOrd X.K (fun a b => dataLt a b) x y H Q) q_lt := VB.or vb_lt vb_ord
theorem vq_gt : VB X.K (fun x y H Q => (rI0 fun i j => .bl (decide (j < i))) x y H Q ∨ rOrd X.K (fun a b => dataLt b a) x y H Q) q_gt := VB.or vb_gt vb_ord
theorem vq_ge : VB X.K (fun x y H Q => (rI0 fun i j => .bl (decide (j ≤ i))) x y H Q ∨ rOrd X.K (fun a b => !dataLt a b) x y H Q) q_ge := VB.or vb_ge vb_ord
theorem oq_lt (hu : X.A.units + 64 < cLine) : OpR X (compareOp .Lt) (fun x y H Q => (rI0 fun i j => .bl (decide (i < j))) x y H Q ∨ rOrd X.K (fun a b => dataLt a b) x y H Q) :=
  OpR.or op_lt (op_ord hu fun ra rb h hn hz q => lt_data ra rb h hn hz q)
theorem oq_gt (hu : X.A.units + 64 < cLine) : OpR X (compareOp .Gt) (fun x y H Q => (rI0 fun i j => .bl (decide (j < i))) x y H Q ∨ rOrd X.K (fun a b => dataLt b a) x y H Q) :=
  OpR.or op_gt (op_ord hu fun ra rb h hn hz q => gt_data ra rb h hn hz q)
theorem oq_ge (hu : X.A.units + 64 < cLine) : OpR X (compareOp .GtE) (fun x y H Q => (rI0 fun i j => .bl (decide (j ≤ i))) x y H Q ∨ rOrd X.K (fun a b => !dataLt a b) x y H Q) :=
  OpR.or op_ge (op_ord hu fun ra rb h hn hz q => ge_data ra rb h hn hz q)
end
def alikeB (ds : List PyData) : Bool := ds.all fun x => !isNoneD x && ds.all fun y => alike x y
theorem alikeB_ok {ds : List PyData} (h : alikeB ds = true) : AlikeAll ds := by
  refine ⟨fun x hx y hy => ?_, fun x hx => ?_⟩
  · have z := List.all_eq_true.mp h x hx
    rw [Bool.and_eq_true] at z
    exact List.all_eq_true.mp z.2 y hy
  · have z := List.all_eq_true.mp h x hx
    rw [Bool.and_eq_true] at z
    exact notNone z.1
def okMM (ds : List PyData) : Bool := (alikeB ds && noDicts ds) && (PyData.plainAll ds && decide (PyData.depthAll ds ≤ 60))
def c_mmD (f : PyData → List PyData → PyData) : List PyData → Option Rs
  | [.list (d :: ds)] => if okMM (d :: ds) = true then some (.im (f d ds)) else none
  | _ => none
def rMmD (K : PySem.W.Frag) (f : PyData → List PyData → PyData) : List V → Hp → VK → Prop := fun vs H Q => ∃ (G : Hp) (a : Addr) (ws : List V) (d : PyData) (ds : List PyData), Same G H ∧ vs = [V.ref a] ∧ SqL K H a ws ∧ DpAll K G ws (d :: ds) ∧ okMM (d :: ds) = true ∧ ∀ v, Dp K G v (f d ds) → Q v H
theorem vc_mmD {K : PySem.W.Frag} {f : PyData → List PyData → PyData} : VC K (rMmD K f) (c_mmD f) := by
  intro m E G0 G e σ H vs ds rr Q R l q P
  unfold c_mmD at q
  split at q
  · rename_i d ds
    by_cases z : okMM (d :: ds) = true
    · rw [if_pos z] at q
      cases q
      obtain ⟨v, rfl, lv⟩ := lv1 l
      obtain ⟨p, ws, rfl, s1, k⟩ := lv.list R.gh
      exact ⟨G, p, ws, d, ds, R.gh, rfl, s1, k, z, fun v hv => P.now R hv True.intro⟩
    · rw [if_neg z] at q
      cases q
  · cases q
section
variable {X : Cx}
theorem plain_mem {ds : List PyData} (h : PyData.plainAll ds = true) : ∀ d ∈ ds, d.plain = true := by
  induction ds with
  | nil => intro d hd; cases hd
  | cons x ds ih =>
    rw [PyData.plainAll, Bool.and_eq_true] at h
    intro d hd
    rcases List.mem_cons.mp hd with z | z
    · rw [z]
      exact h.1
    · exact ih h.2 d z
theorem fold_mem {α : Type} (c : α → α → Bool) : ∀ (xs : List α) (x : α), xs.foldl (fun a y => if c y a then y else a) x ∈ x :: xs
  | [], x => List.mem_cons_self
  | y :: ys, x => by
    rw [List.foldl_cons]
    have z := fold_mem c ys (if c y x then y else x)
    rcases List.mem_cons.mp z with z | z
    · rw [z]
      by_cases w : c y x = true
      · rw [if_pos w]
        exact List.mem_cons_of_mem _ List.mem_cons_self
      · rw [if_neg w]
        exact List.mem_cons_self
    · exact List.mem_cons_of_mem _ (List.mem_cons_of_mem _ z)
theorem maxD_mem (x : PyData) (xs : List PyData) : maxD x xs ∈ x :: xs := fold_mem (fun y a => dataLt a y) xs x
theorem cr_mmD {id : String} {f : PyData → List PyData → PyData} (fm : ∀ x xs, f x xs ∈ x :: xs) (hc : X.calm = true) (hu : X.A.units + 64 < cLine)
    (k : ∀ {s : Shared} {l : Addr} {vs : Array Value} {x : PyData} {xs : List PyData} {as : List Addr} {Q : Value → Shared → Prop}, X.A.handled = none → s.heap.IsList l vs → ReadsAll s.heap vs.toList (x :: xs) as → AlikeAll (x :: xs) → X.A.units + 1 + PyData.depthAll (x :: xs) < cLine →
      (∀ (i : Nat) v h' tk bs, vs[i]? = some v → Reads h' v (f x xs) bs → (∀ b o, s.heap.get? b = some o → h'.get? b = some o) → Q v { s with heap := h', toks := tk }) → wpAny (model X.prog X.w) X.A (call (.builtin id) [.ref l]) Q X.xe s) :
    CallR X (.builtin id) (rMmD X.K f) := by
  rintro pins s σ H vs us Q I r ⟨G, a, ws, d, ds, sg, rfl, hs, hd, ok, q⟩
  obtain ⟨its, rv, pl, _⟩ := I.list hs
  rw [Vals.ref1 r]
  unfold okMM at ok
  simp only [Bool.and_eq_true, decide_eq_true_eq] at ok
  obtain ⟨as, hr⟩ := L2.Dp.readsAll I _ _ its ((dpAll_same sg hd).lib ok.1.2) rv
  refine k (I.ok.hd hc) pl.isList hr (alikeB_ok ok.1.1) (by omega) fun i v g tk bs hi rd hk => ?_
  have hi2 : its[i]? = some v := by simpa using hi
  have li := (List.getElem?_eq_some_iff.mp hi2).1
  have lw := rv.length
  obtain ⟨x, hx⟩ : ∃ x, ws[i]? = some x := ⟨ws[i]'(by omega), List.getElem?_eq_getElem _⟩
  obtain ⟨v2, hv2, rx⟩ := rv.get hx
  rw [hi2] at hv2
  cases hv2
  obtain ⟨d2, hd2, dp⟩ := dpAll_at hd hx
  obtain ⟨cs, rd2⟩ := L2.Dp.reads I d2 x v ((dp_same sg dp).lib (noDicts_all.mp ok.1.2 d2 (List.mem_of_getElem? hd2))) rx
  have p1 := plain_mem ok.2.1 _ (fm d ds)
  have p2 := plain_mem ok.2.1 d2 (List.mem_of_getElem? hd2)
  have e1 := SeqAt.readOf_plain p1 rd
  have e2 := SeqAt.readOf_plain p2 (reads_keeps hk rd2)
  have e3 : f d ds = d2 := e1.symm.trans e2
  exact ⟨x, H, I.kept hk, rx, q x (by rw [e3]; exact dp)⟩
end
def c_maxB : List PyData → Option Rs := orC c_maxA (c_mmD maxD)
theorem vc_maxB {K : PySem.W.Frag} : VC K (fun vs H Q => (rMax K vs H Q ∨ rMaxT K vs H Q) ∨ rMmD K maxD vs H Q) c_maxB := VC.or vc_maxA vc_mmD
theorem cr_maxB {X : Cx} (hc : X.calm = true) (hu : X.A.units + 64 < cLine) : CallR X (.builtin "max") (fun vs H Q => (rMax X.K vs H Q ∨ rMaxT X.K vs H Q) ∨ rMmD X.K maxD vs H Q) :=
  CallR.or (cr_maxA hc hu) (cr_mmD maxD_mem hc hu fun a b c d e f => max_list_data a b c d e f)
end DL
namespace DL
open L2 PySem PySem.Spec PySem.W PyProof.Rows
section
variable {i j : Int}
theorem e_qlt : q_lt (.int i) (.int j) = some (.im (.bool (decide (i < j)))) := rfl
theorem e_qgt : q_gt (.int i) (.int j) = some (.im (.bool (decide (j < i)))) := rfl
theorem e_qge : q_ge (.int i) (.int j) = some (.im (.bool (decide (j ≤ i)))) := rfl
end
/-- an item told by the number of a version -/
def gv {α : Type} [Inhabited α] (l : List α) (v : Nat) : α := l.getD (v - 1) default
theorem gv_get {α : Type} [Inhabited α] {l : List α} {k : Nat} (h : k < l.length) : l[k]? = some (gv l (k + 1)) := by
  unfold gv
  rw [Nat.add_sub_cancel, List.getD_eq_getElem?_getD, List.getElem?_eq_getElem h]
  rfl
section
variable {α : Type} [Inhabited α] {f : α → PyData} {l : List α}
theorem gv_mem {v : Nat} (h : 1 ≤ v) (h2 : v ≤ l.length) : gv l v ∈ l := by
  have := gv_get (l := l) (k := v - 1) (by omega)
  rw [Nat.sub_add_cancel h] at this
  exact List.mem_of_getElem? this
end
def wS (f : Fs) (e : Ev) (Q : Fl → Prop) : Prop := ∃ fl, f e = some fl ∧ Q fl
def seqK (g : Fs) (Q : Fl → Prop) : Fl → Prop
  | .nx e => wS g e Q
  | .bk e => Q (.bk e)
  | .ct e => Q (.ct e)
  | .rt r e => Q (.rt r e)
section
variable {f g : Fs} {e e1 : Ev} {Q : Fl → Prop} {c : Ft} {x : Fe} {r : Rs} {fl : Fl}
theorem w_seq (h : wS f e (seqK g Q)) : wS (s_seq f g) e Q := by
  obtain ⟨fl, h1, h2⟩ := h
  cases fl with
  | nx e1 =>
    obtain ⟨fl, h3, h4⟩ := h2
    exact ⟨fl, by rw [r_s_seq, h1]; exact h3, h4⟩
  | bk e => exact ⟨.bk e, by rw [r_s_seq, h1], h2⟩
  | ct e => exact ⟨.ct e, by rw [r_s_seq, h1], h2⟩
  | rt r e => exact ⟨.rt r e, by rw [r_s_seq, h1], h2⟩
theorem w_nx (q : Q (.nx e)) : wS s_nx e Q := ⟨_, rfl, q⟩
theorem w_ct (q : Q (.ct e)) : wS s_ct e Q := ⟨_, rfl, q⟩
theorem w_ret (h : x e = some (r, e1)) (q : Q (.rt r e1)) : wS (s_ret x) e Q := ⟨_, ret h, q⟩
theorem w_drop (h : x e = some (r, e1)) (q : Q (.nx e1)) : wS (s_drop x) e Q := ⟨_, drop h, q⟩
theorem w_setI {i : Nat} {d : PyData} (h : x e = some (.im d, e1)) (ok : okS [i] e1 = true) (q : Q (.nx (e1.set i (some (.im d))))) : wS (s_setF i x) e Q := ⟨_, setF h ok rfl, q⟩
theorem w_setL {i : Nat} {ds : List PyData} (h : x e = some (.ac ds, e1)) (ok : okS [i] e1 = true) (q : Q (.nx (e1.set i (some (.im (.list ds)))))) : wS (s_setF i x) e Q := ⟨_, setF h ok rfl, q⟩
theorem w_setA {i : Nat} {ds : List PyData} (h : x e = some (.ac ds, e1)) (ok : okS [i] e1 = true) (q : Q (.nx (e1.set i (some (.ac ds))))) : wS (s_set i x) e Q := ⟨_, setX h ok rfl, q⟩
theorem w_fz {j : Nat} (h : wS f (fzE j e) Q) : wS (s_fz j f) e Q := h
theorem w_if {b : Bool} (h : c e = some (b, e1)) (t : b = true → wS f e1 Q) (n : b = false → wS g e1 Q) : wS (s_if c f g) e Q := by
  cases b with
  | true =>
    obtain ⟨fl, h1, h2⟩ := t rfl
    exact ⟨fl, ifT h h1, h2⟩
  | false =>
    obtain ⟨fl, h1, h2⟩ := n rfl
    exact ⟨fl, ifF h h1, h2⟩
end
section
variable {e : Ev} {d : PyData} {ds : List PyData} {r : Rs} {rs : List Rs} {i : Nat} {S : List Nat}
theorem n_lookAll1 {e : Ev} {r : Rs} {rs : List Rs} : lookAll e (r :: rs) = (match lookR e r with
    | some d => (match lookAll e rs with
      | some ds => some (d :: ds)
      | none => none)
    | none => none) := rfl
end
end DL
namespace DL
open L2 PySem PySem.Spec PySem.W PyProof.Rows
end DL
namespace DL
open L2 PySem PySem.Spec PySem.W PyProof.Rows
abbrev im (d : PyData) : Option Sl := some (.im d)
abbrev ac (ds : List PyData) : Option Sl := some (.ac ds)
end DL
namespace DL
open L2 PySem PySem.Spec PySem.W PyProof.Rows
section
variable {x y : Fe} {e e1 e2 : Ev} {a b d : PyData} {r : Rs} {φ : List PyData → Option Rs} {Q : Fl → Prop} {ds : List PyData} {fa : Fa} {i : Nat}
theorem tupI (h : argsI fa e = some (ds, e1)) (hl : ds.length ≤ 16777216) : x_tup fa e = some (.im (.tuple ds), e1) := by
  rw [r_x_tup, h]
  dsimp only
  rw [if_pos (okLen_yes hl)]
theorem iRng1 {m : Nat} (h : x e = some (.im (.int (m : Int)), e1)) (hm : m ≤ 1000000) : i_rng1 x e = some ((List.range m).map nD, e1) := i_rng1_at h hm
theorem negI {k : Int} (h : x e = some (.im (.int k), e1)) : x_neg x e = some (.im (.int (-k)), e1) := by
  rw [r_x_neg, h]
end
end DL
namespace DL
open L2 PySem PySem.Spec PySem.W PyProof.Rows
theorem callKI {φ : List PyData → Option Rs} {π : List Nat} {fa fk : Fa} {e e1 e2 : Ev} {ds zs ds' : List PyData} {d : PyData} (h1 : argsI fa e = some (ds, e1)) (h2 : argsI fk e1 = some (zs, e2)) (hd : perm π (ds ++ zs) = ds') (h : φ ds' = some (.im d)) : x_callK φ π fa fk e = some (.im d, e2) := by
  unfold x_callK
  rw [h1]
  dsimp only
  rw [h2]
  dsimp only
  rw [hd, h]
theorem maxB_list {ns : List Int} (h : ns ≠ []) : c_maxB [.list (ns.map PyData.int)] = some (.im (.int (maxI ns))) := by
  cases ns with
  | nil => exact absurd rfl h
  | cons n ns =>
    unfold c_maxB c_maxA orC
    have q : c_max [.list ((n :: ns).map PyData.int)] = some (.im (.int (maxI (n :: ns)))) := by
      unfold c_max c_intsL
      dsimp only
      rw [unI_ints]
      rfl
    rw [q]
end DL
namespace DL
open L2 PySem PySem.Spec PySem.W PyProof.Rows
end DL
namespace DL
open PySem PySem.Spec PyProof.Rows L2
section
variable {X : Cx}
variable {elt tg it tg1 it1 : Expr} {ifs ifs1 : List Expr} {scope : Scope} {own : List (Str × Nat)} {pos spos : Pos} {fi fi1 : Fi} {S S1 vs1 : List Nat} {γ γ1 : PyData → Ev → Option Ev} {tst tst1 : Ft} {fe : Fe}
/-- a source, by what it gives -/
def wiOf (K : PySem.W.Frag) (f : Fi) : TI := fun σ H Q => ∃ m E G0 G e ds e', Rl K m E G0 G e σ H ∧ f e = some (ds, e') ∧ ∀ J G' H', Rl K m E G0 G' e' σ H' → Stp σ G H e G' H' e' → WalkD K G' J ds → Q J H'
theorem ID.can {X : Cx} {tg it : Expr} {f : Fi} (h : ID X tg it f) : PI X tg it (wiOf X.K f) := by
  obtain ⟨wi, p, k⟩ := h
  exact ⟨fun pins s σ H Q I ⟨m, E, G0, G, e, ds, e', R, q, P⟩ => p.run pins s σ H Q I (k m E G0 G e σ H ds e' Q R q P)⟩
end
end DL
namespace DL
open L2 PySem PySem.Spec PySem.W PyProof.Rows
section
variable {K : PySem.W.Frag} {m : Option Addr} {E : Ef} {G0 G H : Hp} {e : Ev} {σ : St} {p : Addr} {i : Nat}
theorem Rl.newG {o : HO} (R : Rl K m E G0 G e σ H) (h : H p = none) :
    Rl K m E G0 (upd G p o) e σ (upd H p o) ∧ Stp σ G H e (upd G p o) (upd H p o) e := by
  obtain ⟨hG, hE, hO, hm⟩ := R.fresh h
  have s1 : Same G (upd G p o) := same_new hG
  have nb : ∀ {b : Addr}, H b ≠ none → b ≠ p := fun {b} z y => z (by rw [y]; exact h)
  refine ⟨⟨R.gg.trans s1, fun b u z => ?_, fun b u b1 b2 => ?_, fun b b1 => ⟨(R.mh b b1).1, ?_⟩, fun b b1 b2 => ?_, R.len, fun i d z => ?_, fun i ds' z => ?_, R.inj, fun i dss z => (R.ot i dss z).mono s1⟩, ⟨s1, fun b b1 b2 => ?_, fun b u b1 _ => same_new h b u b1, fun _ => rfl, fun b b1 => ?_⟩⟩
  · by_cases y : b = p
    · subst y
      rw [upd_same] at z ⊢
      exact z
    · rw [upd_ne y] at z ⊢
      exact R.gh b u z
  · exact same_new h b u (R.eh b u b1 b2)
  · rw [upd_ne (nb (R.mh b b1).2)]
    exact (R.mh b b1).2
  · have y : b ≠ p := fun y => b2 (by rw [y]; exact hE)
    rw [upd_ne y]
    exact R.nw b b1 b2
  · obtain ⟨u, z1, z2⟩ := R.im i d z
    exact ⟨u, z1, dp_same s1 z2⟩
  · obtain ⟨p', ws', z1, z2, z3, z4, z5⟩ := R.ac i ds' z
    have y : p' ≠ p := nb (by rw [z3]; simp)
    exact ⟨p', ws', z1, by rw [upd_ne y]; exact z2, by rw [upd_ne y]; exact z3, dpAll_same s1 z4, z5⟩
  · rw [upd_ne (nb b2)]
    exact b1
  · rw [upd_ne (nb b1)]
    exact b1
theorem Rl.setO {dss : Ok} (R : Rl K m E G0 G e σ H) (h : ObF K G (some (some (.ref p))) dss) : Rl K m E G0 G (e.set i (some (.ob dss))) (σ.set i (some (.ref p))) H := by
  have hl := R.len
  have keep : ∀ {j : Nat} {s : Sl}, (e.set i (some (.ob dss)))[j]? = some (some s) → (∀ d, s ≠ .ob d) → e[j]? = some (some s) ∧ (σ.set i (some (V.ref p)))[j]? = σ[j]? := fun {j s} z ns => by
    rw [set_get] at z ⊢
    by_cases y : i = j ∧ j < e.length
    · rw [if_pos y] at z
      cases z
      exact absurd rfl (ns dss)
    · rw [if_neg y] at z
      exact ⟨z, if_neg (by omega)⟩
  refine ⟨R.gg, R.gh, R.eh, R.mh, R.nw, by rw [List.length_set, List.length_set]; exact hl, fun j d z => ?_, fun j ds z => ?_, fun j k dj dk q1 z1 z2 z3 z4 => ?_, fun j ds z => ?_⟩
  · obtain ⟨a1, a2⟩ := keep z fun _ y => by cases y
    rw [a2]
    exact R.im j d a1
  · obtain ⟨a1, a2⟩ := keep z fun _ y => by cases y
    rw [a2]
    exact R.ac j ds a1
  · obtain ⟨a1, a2⟩ := keep z1 fun _ y => by cases y
    obtain ⟨b1, b2⟩ := keep z2 fun _ y => by cases y
    rw [a2] at z3
    rw [b2] at z4
    exact R.inj j k dj dk q1 a1 b1 z3 z4
  · rw [set_get] at z ⊢
    by_cases y : i = j ∧ j < e.length
    · rw [if_pos y] at z
      cases z
      rw [if_pos ⟨y.1, by omega⟩]
      exact h
    · rw [if_neg y] at z
      rw [if_neg (by omega)]
      exact R.ot j ds z
theorem Rz.setO {k : Ok} (R : Rz K m E G0 G e σ H) (h : ObF K G (some (some (.ref p))) k) (ok : okS [i] e = true) : Rz K m E G0 G (e.set i (some (.ob k))) (σ.set i (some (.ref p))) H :=
  ⟨R.r.setO h, fun q z => by
    obtain ⟨z1, z2⟩ := R.z q z
    have n : i ≠ 0 := fun y => okS_no ok z1 (by rw [y]; exact List.mem_singleton.mpr rfl)
    rw [List.getElem?_set_ne n, List.getElem?_set_ne n]
    exact ⟨z1, z2⟩⟩
end
end DL
namespace DL
open L2 PySem PySem.Spec PySem.W PyProof.Rows
end DL
namespace DL
open L2 PySem PySem.Spec PySem.W PyProof.Rows
abbrev tp {α : Type} (f : α → PyData) (l : List α) : PyData := .tuple (l.map f)
abbrev ls {α : Type} (f : α → PyData) (l : List α) : PyData := .list (l.map f)
abbrev p2 {α β : Type} (f : α → PyData) (g : β → PyData) (x : α × β) : PyData := .tuple [f x.1, g x.2]
abbrev p3 {α β γ : Type} (f : α → PyData) (g : β → PyData) (h : γ → PyData) (x : α × β × γ) : PyData := .tuple [f x.1, g x.2.1, h x.2.2]
abbrev p4 {α β γ δ : Type} (f : α → PyData) (g : β → PyData) (h : γ → PyData) (k : δ → PyData) (x : α × β × γ × δ) : PyData := .tuple [f x.1, g x.2.1, h x.2.2.1, k x.2.2.2]
def opt {α : Type} (f : α → PyData) : Option α → PyData
  | none => .none
  | some a => f a
abbrev nn (_ : Unit) : PyData := .none
abbrev idD (d : PyData) : PyData := d
abbrev imo (o : Option PyData) : Option Sl := o.map Sl.im
theorem bnd {α β : Type} {o : Option α} {k : α → Option β} {b : β} (h : o.bind k = some b) : ∃ a, o = some a ∧ k a = some b := by
  cases o with
  | none => cases h
  | some a => exact ⟨a, rfl, h⟩
theorem if1 {α : Type} {c : Bool} {a b : α} (h : c = true) : (if c = true then a else b) = a := if_pos h
theorem if0 {α : Type} {c : Bool} {a b : α} (h : c = false) : (if c = true then a else b) = b := if_neg (by rw [h]; exact Bool.false_ne_true)
class EqE {α : Type} [DecidableEq α] (f : α → PyData) where
  d : Nat
  can : ∀ a, PyData.canLay0 (f a) = true
  dep : ∀ a, (f a).depth ≤ d
  eqv : ∀ a b, PyData.eqv (f a) (f b) = decide (a = b)
instance : EqE PyData.int := ⟨0, fun a => by rw [PyData.canLay0], fun a => by rw [PyData.depth]; omega, fun a b => by rw [PyData.eqv]; exact Bool.eq_iff_iff.mpr (by simp)⟩
instance : EqE PyData.bool := ⟨0, fun a => by rw [PyData.canLay0], fun a => by rw [PyData.depth]; omega, fun a b => by rw [PyData.eqv]; exact Bool.eq_iff_iff.mpr (by simp)⟩
instance : EqE nn := ⟨0, fun a => by rw [PyData.canLay0], fun a => by rw [PyData.depth]; omega, fun a b => by rw [PyData.eqv]; rfl⟩
section
variable {α : Type} [DecidableEq α] {f : α → PyData} [E : EqE f]
theorem can_all : ∀ l : List α, PyData.canLayAll0 (l.map f) = true
  | [] => by rw [List.map_nil, PyData.canLayAll0]
  | a :: l => by rw [List.map_cons, PyData.canLayAll0, can_all l, E.can]; rfl
theorem dep_all : ∀ l : List α, PyData.depthAll (l.map f) ≤ E.d
  | [] => by rw [List.map_nil, PyData.depthAll]; omega
  | a :: l => by
    rw [List.map_cons, PyData.depthAll]
    have := dep_all l
    have := E.dep a
    omega
theorem eqv_all : ∀ l m : List α, PyData.eqvAll (l.map f) (m.map f) = decide (l = m)
  | [], [] => by rw [List.map_nil, PyData.eqvAll]; rfl
  | [], b :: m => by simp [PyData.eqvAll]
  | a :: l, [] => by simp [PyData.eqvAll]
  | a :: l, b :: m => by
    rw [List.map_cons, List.map_cons, PyData.eqvAll, eqv_all l m, E.eqv]
    exact Bool.eq_iff_iff.mpr (by simp)
end
instance {α : Type} [DecidableEq α] {f : α → PyData} [E : EqE f] : EqE (tp f) := ⟨E.d + 1, fun a => by rw [PyData.canLay0]; exact can_all a, fun a => by rw [PyData.depth]; have := dep_all (f := f) a; omega, fun a b => by rw [PyData.eqv]; exact eqv_all a b⟩
instance {α : Type} [DecidableEq α] {f : α → PyData} [E : EqE f] : EqE (ls f) := ⟨E.d + 1, fun a => by rw [PyData.canLay0]; exact can_all a, fun a => by rw [PyData.depth]; have := dep_all (f := f) a; omega, fun a b => by rw [PyData.eqv]; exact eqv_all a b⟩
instance {α β : Type} [DecidableEq α] [DecidableEq β] {f : α → PyData} {g : β → PyData} [E : EqE f] [F : EqE g] : EqE (p2 f g) := ⟨max E.d F.d + 1, fun a => by simp [PyData.canLay0, PyData.canLayAll0, E.can, F.can], fun a => by
    rw [PyData.depth, PyData.depthAll, PyData.depthAll, PyData.depthAll]
    have := E.dep a.1
    have := F.dep a.2
    omega, fun a b => by
    rw [PyData.eqv, PyData.eqvAll, PyData.eqvAll, PyData.eqvAll, E.eqv, F.eqv]
    obtain ⟨a1, a2⟩ := a
    obtain ⟨b1, b2⟩ := b
    exact Bool.eq_iff_iff.mpr (by simp)⟩
instance {α β γ : Type} [DecidableEq α] [DecidableEq β] [DecidableEq γ] {f : α → PyData} {g : β → PyData} {h : γ → PyData} [E : EqE f] [F : EqE g] [G : EqE h] : EqE (p3 f g h) := ⟨max E.d (max F.d G.d) + 1, fun a => by simp [PyData.canLay0, PyData.canLayAll0, E.can, F.can, G.can], fun a => by
    rw [PyData.depth, PyData.depthAll, PyData.depthAll, PyData.depthAll, PyData.depthAll]
    have := E.dep a.1
    have := F.dep a.2.1
    have := G.dep a.2.2
    omega, fun a b => by
    rw [PyData.eqv, PyData.eqvAll, PyData.eqvAll, PyData.eqvAll, PyData.eqvAll, E.eqv, F.eqv, G.eqv]
    obtain ⟨a1, a2, a3⟩ := a
    obtain ⟨b1, b2, b3⟩ := b
    exact Bool.eq_iff_iff.mpr (by simp)⟩
section
variable {α : Type} [DecidableEq α] {f : α → PyData} [E : EqE f]
theorem shp1 (h : E.d ≤ 64) (a : α) : SeqAt.shaped (f a) = true := by
  unfold SeqAt.shaped
  rw [E.can, Bool.true_and, decide_eq_true_eq]
  exact Nat.le_trans (E.dep a) h
theorem o_eq (h : E.d ≤ 64) (a b : α) : p_eq (f a) (f b) = some (.im (.bool (decide (a = b)))) := by
  unfold p_eq
  rw [shp1 h, shp1 h, E.eqv]
  rfl
theorem o_ne (h : E.d ≤ 64) (a b : α) : p_ne (f a) (f b) = some (.im (.bool (!decide (a = b)))) := by
  unfold p_ne
  rw [shp1 h, shp1 h, E.eqv]
  rfl
end
class Nn {α : Type} (f : α → PyData) : Prop where
  n : ∀ a, p_isN false (f a) .none = some (.bool false) ∧ p_isN true (f a) .none = some (.bool true)
instance : Nn PyData.int := ⟨fun _ => ⟨rfl, rfl⟩⟩
instance : Nn PyData.bool := ⟨fun _ => ⟨rfl, rfl⟩⟩
instance : Nn PyData.str := ⟨fun _ => ⟨rfl, rfl⟩⟩
instance {α : Type} {f : α → PyData} : Nn (tp f) := ⟨fun _ => ⟨rfl, rfl⟩⟩
instance {α : Type} {f : α → PyData} : Nn (ls f) := ⟨fun _ => ⟨rfl, rfl⟩⟩
instance {α β : Type} {f : α → PyData} {g : β → PyData} : Nn (p2 f g) := ⟨fun _ => ⟨rfl, rfl⟩⟩
instance {α β γ : Type} {f : α → PyData} {g : β → PyData} {h : γ → PyData} : Nn (p3 f g h) := ⟨fun _ => ⟨rfl, rfl⟩⟩
theorem o_isO {α : Type} {f : α → PyData} [N : Nn f] (o : Option α) : p_is (opt f o) .none = some (.im (.bool o.isNone)) := by
  cases o with
  | none => rfl
  | some a =>
    have q := (N.n a).1
    simp only [p_is, orF, opt, q, Option.map_some]
    rfl
theorem o_isnotO {α : Type} {f : α → PyData} [N : Nn f] (o : Option α) : p_isnot (opt f o) .none = some (.im (.bool (!o.isNone))) := by
  cases o with
  | none => rfl
  | some a =>
    have q := (N.n a).2
    simp only [p_isnot, orF, opt, q, Option.map_some]
    rfl
section
variable {α β : Type} {f : α → PyData} {l m r : List α} {a : α} {i j k : Int}
theorem atI_map : atI (l.map f) i = (atI l i).map f := by
  unfold atI
  rw [List.length_map]
  cases ixN l.length i with
  | none => rfl
  | some j => exact List.getElem?_map
theorem o_ixT (h : atI l i = some a) : p_ix (tp f l) (.int i) = some (.im (f a)) := by
  show (atI (l.map f) i).map Rs.im = _
  rw [atI_map, h]
  rfl
theorem o_ixL (h : atI l i = some a) : p_ix (ls f l) (.int i) = some (.im (f a)) := by
  show (atI (l.map f) i).map Rs.im = _
  rw [atI_map, h]
  rfl
def mulO (i j : Int) : Option Int := if (mulC i j || mulWC i j) = true then some (i * j) else none
theorem o_mul (h : mulO i j = some k) : p_mul (.int i) (.int j) = some (.im (.int k)) := by
  unfold mulO at h
  unfold p_mul orF d_int2
  by_cases z : mulC i j = true
  · rw [z, Bool.true_or, if_pos rfl] at h
    cases h
    simp only [z, if_true]
    rfl
  · have z := Bool.eq_false_iff.mpr z
    rw [z, Bool.false_or] at h
    by_cases y : mulWC i j = true
    · rw [if_pos y] at h
      cases h
      simp only [z, y]
      rfl
    · rw [if_neg y] at h
      cases h
def divO (i j : Int) : Option Int := if 0 < j ∧ j.natAbs.log2 < 9000 then some (i / j) else none
theorem o_div (h : divO i j = some k) : p_div (.int i) (.int j) = some (.im (.int k)) := by
  unfold divO at h
  by_cases z : 0 < j ∧ j.natAbs.log2 < 9000
  · rw [if_pos z] at h
    cases h
    exact e_divW z.1 z.2
  · rw [if_neg z] at h
    cases h
def modO (i j : Int) : Option Int := if 0 < j then some (i % j) else none
theorem o_mod (h : modO i j = some k) : p_mod (.int i) (.int j) = some (.im (.int k)) := by
  unfold modO at h
  by_cases z : 0 < j
  · rw [if_pos z] at h
    cases h
    exact e_mod z
  · rw [if_neg z] at h
    cases h
def powO (i j : Int) : Option Int := if powC i j = true then some (i ^ j.toNat) else none
theorem o_pow (h : powO i j = some k) : p_pow (.int i) (.int j) = some (.im (.int k)) := by
  unfold powO at h
  by_cases z : powC i j = true
  · rw [if_pos z] at h
    cases h
    unfold p_pow d_int2
    simp only [z, if_true]
    rfl
  · rw [if_neg z] at h
    cases h
def catO (l m : List α) : Option (List α) := if l.length + m.length ≤ 16777216 then some (l ++ m) else none
theorem o_catT (h : catO l m = some r) : p_add (tp f l) (tp f m) = some (.im (tp f r)) := by
  unfold catO at h
  by_cases z : l.length + m.length ≤ 16777216
  · rw [if_pos z] at h
    cases h
    rw [e_catT (by rw [List.length_map, List.length_map]; exact z)]
    show _ = some (Rs.im (.tuple ((l ++ m).map f)))
    rw [List.map_append]
  · rw [if_neg z] at h
    cases h
theorem o_catL (h : catO l m = some r) : p_add (ls f l) (ls f m) = some (.ac (r.map f)) := by
  unfold catO at h
  by_cases z : l.length + m.length ≤ 16777216
  · rw [if_pos z] at h
    cases h
    rw [e_cat (by rw [List.length_map, List.length_map]; exact z), List.map_append]
  · rw [if_neg z] at h
    cases h
theorem cut_map {lo hi : Option Int} : cutD (l.map f) lo hi = (cutD l lo hi).map f := by
  unfold cutD
  rw [List.length_map, ← List.map_drop, ← List.map_take]
def maxO1 (l : List Int) : Option Int := if l = [] then none else some (maxI l)
theorem o_maxL {l : List Int} (h : maxO1 l = some k) : c_maxB [ls PyData.int l] = some (.im (.int k)) := by
  unfold maxO1 at h
  by_cases z : l = []
  · rw [if_pos z] at h
    cases h
  · rw [if_neg z] at h
    cases h
    exact maxB_list z
theorem o_lenT : c_len [tp f l] = some (.im (.int l.length)) := by
  show some (Rs.im (.int ((l.map f).length : Nat))) = _
  rw [List.length_map]
theorem o_lenL : c_len [ls f l] = some (.im (.int l.length)) := by
  show some (Rs.im (.int ((l.map f).length : Nat))) = _
  rw [List.length_map]
theorem o_sumL {l : List Int} : c_sum [ls PyData.int l] = some (.im (.int l.sum)) := by
  show (match unI (l.map PyData.int) with
    | some ns => some (Rs.im (.int ns.sum))
    | none => none) = _
  rw [unI_ints]
theorem o_int : c_int [.int i] = some (.im (.int i)) := rfl
theorem o_intB {b : Bool} : c_int [.bool b] = some (.im (.int (if b = true then 1 else 0))) := rfl
theorem o_abs : c_abs [.int i] = some (.im (.int (if i < 0 then -i else i))) := rfl
def rngO (i j : Int) : Option (List Int) := if (rgC i && rgC j) = true then some ((List.range (j - i).toNat).map fun (k : Nat) => i + (k : Int)) else none
def rng1O (j : Int) : Option (List Int) := if rgC j = true then some ((List.range j.toNat).map fun (k : Nat) => (k : Int)) else none
theorem zip_typed {g : β → PyData} {m : List β} : zipD (l.map f) (m.map g) = (l.zip m).map (p2 f g) := by
  unfold zipD
  rw [List.zipWith_map, List.zip_eq_zipWith, List.map_zipWith]
def lcO {γ : Type} (p : α → Option Bool) (g : α → Option γ) : List α → Option (List γ)
  | [] => some []
  | a :: l => (p a).bind fun b => if b = true then (g a).bind fun c => (lcO p g l).bind fun cs => some (c :: cs) else lcO p g l
def lcC {γ : Type} (p : α → Option Bool) (g : α → Option γ) (l : List α) : Option (List γ) := if l.length ≤ 16777216 then lcO p g l else none
def andO (a : Bool) (o : Option Bool) : Option Bool := if a = true then o else some false
def orO (a : Bool) (o : Option Bool) : Option Bool := if a = true then some true else o
def putO (l : List α) (i : Int) (a : α) : Option (List α) := (ixN l.length i).bind fun j => some (l.set j a)
def appO (l : List α) (a : α) : Option (List α) := if l.length + 1 ≤ 16777216 then some (l ++ [a]) else none
end
section
variable {x y z : Fe} {c d : Ft} {e e1 e2 e3 : Ev} {r r1 r2 r3 : Rs} {a b : PyData} {ds : List PyData} {fa fb : Fa}
theorem binX {φ : PyData → PyData → Option Rs} (h1 : x e = some (r1, e1)) (h2 : y e1 = some (r2, e2)) (l1 : lookR e2 (frzR r1) = some a) (l2 : lookR e2 (frzR r2) = some b) (h : φ a b = some r) : x_bin φ x y e = some (r, e2) := by
  rw [r_x_bin, r_two, h1]
  simp only [h2, look2, l1, l2, h]
theorem d0 : argsD a_nil e = some ([], e) := rfl
theorem dX (h1 : x e = some (r, e1)) (h2 : argsD fa e1 = some (ds, e2)) (l1 : lookR e2 (frzR r) = some a) : argsD (a_cons x fa) e = some (a :: ds, e2) := by
  rw [r_argsD] at h2 ⊢
  rw [r_a_cons, h1]
  dsimp only
  cases z : fa e1 with
  | none => rw [z] at h2; cases h2
  | some p =>
    obtain ⟨rs, e3⟩ := p
    rw [z] at h2
    dsimp only at h2 ⊢
    cases y : lookAll e3 rs with
    | none => rw [y] at h2; cases h2
    | some es =>
      rw [y] at h2
      cases h2
      rw [n_lookAll1, l1]
      dsimp only
      rw [y]
theorem cbX {φ : List PyData → Option Rs} (h : argsD fa e = some (ds, e1)) (k : φ ds = some r) : x_cb φ fa e = some (r, e1) := by
  rw [r_x_cb, h]
  simp only [k]
theorem isX {T : Ty} {b : Bool} (h1 : x e = some (r, e1)) (l1 : lookR e1 (frzR r) = some a) (k : isD T a = some b) : x_isi T x e = some (.im (.bool b), e1) := by
  rw [r_x_isi, h1]
  simp only [l1, k]
theorem lstX (h : argsI fa e = some (ds, e1)) (hl : ds.length ≤ 16777216) : x_lst fa e = some (.ac ds, e1) := by
  rw [r_x_lst, h]
  dsimp only
  rw [if_pos (okLen_yes hl)]
theorem notX {b : Bool} (h : x e = some (.im (.bool b), e1)) : x_not x e = some (.im (.bool (!b)), e1) := by
  rw [r_x_not, h]
theorem andX {p q : Bool} {o : Option Bool} (h : x e = some (.im (.bool p), e1)) (k : andO p o = some q) (hy : p = true → ∀ q', o = some q' → y e1 = some (.im (.bool q'), e1)) : x_and x y e = some (.im (.bool q), e1) := by
  rw [r_x_and, h]
  cases p with
  | false => cases k; rfl
  | true => exact hy rfl q k
theorem tandX {p q : Bool} {o : Option Bool} (h : c e = some (p, e1)) (k : andO p o = some q) (hy : p = true → ∀ q', o = some q' → d e1 = some (q', e1)) : t_and c d e = some (q, e1) := by
  rw [r_t_and, h]
  cases p with
  | false => cases k; rfl
  | true => exact hy rfl q k
theorem torX {p q : Bool} {o : Option Bool} (h : c e = some (p, e1)) (k : orO p o = some q) (hy : p = false → ∀ q', o = some q' → d e1 = some (q', e1)) : t_or c d e = some (q, e1) := by
  rw [r_t_or, h]
  cases p with
  | true => cases k; rfl
  | false => exact hy rfl q k
theorem ifX {α : Type} {f : α → PyData} {p : Bool} {o1 o2 : Option α} {v : α} (h : c e = some (p, e1)) (k : (if p = true then o1 else o2) = some v) (h1 : p = true → ∀ w, o1 = some w → x e1 = some (.im (f w), e2)) (h2 : p = false → ∀ w, o2 = some w → y e1 = some (.im (f w), e2)) : x_if c x y e = some (.im (f v), e2) := by
  rw [r_x_if, h]
  cases p with
  | true => exact h1 rfl v k
  | false => exact h2 rfl v k
theorem tandM {σ : Type} {p q : Bool} {o : Option (Bool × σ)} {s0 s : σ} (W : σ → Ev) (h : c e = some (p, e1)) (h0 : e1 = W s0) (k : (if p = true then o else some (false, s0)) = some (q, s)) (hy : p = true → ∀ q' s', o = some (q', s') → d e1 = some (q', W s')) : t_and c d e = some (q, W s) := by
  rw [r_t_and, h]
  cases p with
  | false => cases k; rw [h0]
  | true => exact hy rfl q s k
end
section
variable {α : Type} {f : α → PyData} {x y z : Fe} {e e1 e2 e3 : Ev} {r : Rs} {i j k : Int} {l : List α} {fa : Fa}
theorem cutTX {lo hi : Option Int} {fl fh : Fo} (h : x e = some (.im (tp f l), e1)) (h1 : fl e1 = some (lo, e2)) (h2 : fh e2 = some (hi, e3)) : x_sl x fl fh e = some (.im (tp f (cutD l lo hi)), e3) := by
  rw [r_x_sl, h]
  simp only [h1, h2, frzR, lookR, sliced, cut_map]
theorem cutLX {lo hi : Option Int} {fl fh : Fo} (h : x e = some (r, e1)) (h1 : fl e1 = some (lo, e2)) (h2 : fh e2 = some (hi, e3)) (hl : lookR e3 (frzR r) = some (ls f l)) : x_sl x fl fh e = some (.ac ((cutD l lo hi).map f), e3) := by
  rw [r_x_sl, h]
  simp only [h1, h2, hl, sliced, cut_map]
theorem oA (h : x e = some (.im (.int i), e1)) : o_at x e = some (some i, e1) := by
  rw [r_o_at, h]
theorem oN : o_no e = some (none, e) := rfl
theorem seqTX (h : x e = some (.im (tp f l), e1)) : i_seq x e = some (l.map f, e1) := iseqT h
theorem seqLX (h : x e = some (.im (ls f l), e1)) : i_seq x e = some (l.map f, e1) := iseqL h
theorem seqAX (h : x e = some (.ac (l.map f), e1)) : i_seq x e = some (l.map f, e1) := iseqA h
theorem rng_typed (n : Nat) : rngD i n 1 = ((List.range n).map fun (k : Nat) => i + (k : Int)).map PyData.int := by
  unfold rngD
  rw [List.map_map]
  refine List.map_congr_left fun k _ => ?_
  show PyData.int (i + (k : Int) * 1) = .int (i + k)
  rw [Int.mul_one]
theorem rng2I {is : List Int} (h : x e = some (.im (.int i), e1)) (h2 : y e1 = some (.im (.int j), e2)) (k : rngO i j = some is) : i_rng2 x y e = some (is.map PyData.int, e2) := by
  rw [r_i_rng2, h]
  dsimp only
  rw [h2]
  dsimp only
  unfold rngO at k
  by_cases z : (rgC i && rgC j) = true
  · rw [if_pos z] at k ⊢
    cases k
    rw [rng_typed]
  · rw [if_neg z] at k
    cases k
theorem rng1I {is : List Int} (h : x e = some (.im (.int j), e1)) (k : rng1O j = some is) : i_rng1 x e = some (is.map PyData.int, e1) := by
  rw [r_i_rng1, h]
  dsimp only
  unfold rng1O at k
  by_cases z : rgC j = true
  · rw [if_pos z] at k ⊢
    cases k
    rw [rng_typed]
    refine congrArg some (Prod.ext ?_ rfl)
    dsimp only
    congr 1
    refine List.map_congr_left fun k _ => ?_
    omega
  · rw [if_neg z] at k
    cases k
end
section
variable {X β : Type} {enc : X → PyData} {encB : β → PyData} {fi : Fi} {γ : PyData → Ev → Option Ev} {tst : Ft} {fe : Fe} {vs : List Nat} {e e1 : Ev}
theorem lcGo_typed (p : X → Option Bool) (g : X → Option β) (w : Ev) : ∀ (l : List X) (out : List β) (acc : List PyData), lcO p g l = some out → acc.length + l.length ≤ 16777216 →
    (∀ a ∈ l, ∃ a1, γ (enc a) w = some a1 ∧ wipeE a1 vs = w ∧ (∀ b, p a = some b → tst a1 = some (b, a1)) ∧ (p a = some true → ∀ c, g a = some c → ∃ z, fe a1 = some z ∧ imR (frzR z.1) = some (encB c) ∧ z.2 = a1)) →
    lcGo γ tst fe vs (l.map enc) w acc = some (acc ++ out.map encB, w)
  | [], out, acc, h, _, _ => by
    cases h
    show some (acc, _) = some (acc ++ [], _)
    rw [List.append_nil]
  | a :: l, out, acc, h, hl, k => by
    obtain ⟨b, hb, h⟩ := bnd h
    obtain ⟨a1, k1, k2, k3, k4⟩ := k a List.mem_cons_self
    rw [List.length_cons] at hl
    rw [List.map_cons]
    simp only [lcGo, k1, k3 b hb]
    cases b with
    | false =>
      rw [if_neg Bool.false_ne_true] at h
      simp only [k2]
      exact lcGo_typed p g w l out acc h (by omega) fun x m => k x (List.mem_cons_of_mem _ m)
    | true =>
      rw [if_pos rfl] at h
      obtain ⟨c, hc, h⟩ := bnd h
      obtain ⟨cs, hcs, h⟩ := bnd h
      cases h
      obtain ⟨⟨r, e3⟩, z1, z2, z3⟩ := k4 hb c hc
      simp only [z1, z2]
      dsimp only at z3
      rw [if_pos (okLen_yes (by omega)), z3, k2, lcGo_typed p g w l cs _ hcs (by simp only [List.length_append, List.length_cons, List.length_nil]; omega) fun x m => k x (List.mem_cons_of_mem _ m)]
      rw [List.map_cons, List.append_assoc]
      rfl
theorem lcX {items : List X} {p : X → Option Bool} {g : X → Option β} {out : List β} (h : lcC p g items = some out) (hi : fi e = some (items.map enc, e1)) (hn : noAc e1 vs = true)
    (k : ∀ a ∈ items, ∃ a1, γ (enc a) (wipeE e1 vs) = some a1 ∧ wipeE a1 vs = wipeE e1 vs ∧ (∀ b, p a = some b → tst a1 = some (b, a1)) ∧ (p a = some true → ∀ c, g a = some c → ∃ z, fe a1 = some z ∧ imR (frzR z.1) = some (encB c) ∧ z.2 = a1)) :
    x_lc fi γ tst fe vs e = some (.ac (out.map encB), e1) := by
  unfold lcC at h
  by_cases z : items.length ≤ 16777216
  · rw [if_pos z] at h
    unfold x_lc
    simp only [hi]
    rw [if_pos hn, lcGo_typed p g _ items out [] h (by simpa using z) k]
    simp only [rest_wipe, List.nil_append]
  · rw [if_neg z] at h
    cases h
end
section
open Classical
variable {ρ : Type}
noncomputable def chI (enc : ρ → PyData) (o : Option Rs) : Option ρ := if h : ∃ r, o = some (.im (enc r)) then some (choose h) else none
theorem chI_ok {enc : ρ → PyData} {o : Option Rs} {r : ρ} (h : chI enc o = some r) : o = some (.im (enc r)) := by
  unfold chI at h
  by_cases z : ∃ r, o = some (.im (enc r))
  · rw [dif_pos z] at h
    cases h
    exact choose_spec z
  · rw [dif_neg z] at h
    cases h
/-- what it is, where the data tell it -/
theorem chI_eq {enc : ρ → PyData} {o : Option Rs} {r : ρ} (inj : ∀ a b, enc a = enc b → a = b) (h : o = some (.im (enc r))) : chI enc o = some r := by
  have z : ∃ r, o = some (.im (enc r)) := ⟨r, h⟩
  unfold chI
  rw [dif_pos z]
  have q := h.symm.trans (choose_spec z)
  injection q with q
  injection q with q
  rw [inj _ _ q]
end
end DL
namespace DL
open L2 PySem PySem.Spec PySem.W PyProof.Rows
inductive Lp (σ ρ : Type) where
  | nx (s : σ) | bk (s : σ) | rt (r : ρ)
def PK {σ ρ : Type} (inv : σ → Ev → Prop) (rt : ρ → Rs → Ev → Prop) : Lp σ ρ → Fl → Prop
  | .nx s, .nx e => inv s e
  | .nx s, .ct e => inv s e
  | .bk s, .bk e => inv s e
  | .rt r, .rt r' e => rt r r' e
  | _, _ => False
def SK {σ : Type} (inv : σ → Ev → Prop) : σ → Fl → Prop
  | s, .nx e => inv s e
  | s, .ct e => inv s e
  | _, _ => False
def RK {ρ : Type} (rt : ρ → Rs → Ev → Prop) : ρ → Fl → Prop
  | r, .rt r' e => rt r r' e
  | r, .nx e => rt r (.im .none) e
  | _, _ => False
def forG {α σ ρ : Type} (body : α → σ → Option (Lp σ ρ)) : List α → σ → Option (Lp σ ρ)
  | [], s => some (.nx s)
  | a :: l, s => (body a s).bind fun r => match r with
    | .nx s' => forG body l s'
    | .bk s' => some (.nx s')
    | .rt r => some (.rt r)
def forS {α σ : Type} (body : α → σ → Option σ) : List α → σ → Option σ
  | [], s => some s
  | a :: l, s => (body a s).bind fun s' => forS body l s'
def whS {σ : Type} (c : σ → Option Bool) (body : σ → Option σ) : Nat → σ → Option σ
  | 0, _ => none
  | n + 1, s => (c s).bind fun b => if b = true then (body s).bind fun s' => whS c body n s' else some s
def thenL {σ ρ τ : Type} (o : Option (Lp σ ρ)) (rt : ρ → Option τ) (k : σ → Option τ) : Option τ := o.bind fun l => match l with
  | .nx s => k s
  | .bk s => k s
  | .rt r => rt r
theorem thenL_nx {σ ρ τ : Type} {o : Option (Lp σ ρ)} {s : σ} {rt : ρ → Option τ} {k : σ → Option τ} (h : o = some (.nx s)) : thenL o rt k = k s := by
  rw [h]; rfl
theorem thenL_rt {σ ρ τ : Type} {o : Option (Lp σ ρ)} {r : ρ} {rt : ρ → Option τ} {k : σ → Option τ} (h : o = some (.rt r)) : thenL o rt k = rt r := by
  rw [h]; rfl
section
variable {f g : Fs} {e e1 e2 : Ev} {Q : Fl → Prop} {x y : Fe} {i : Nat} {ds : List PyData}
theorem t_set {α : Type} {f : α → PyData} {v w : α} (hw : some v = some w) (h : x e = some (.im (f v), e1)) (ok : okS [i] e1 = true) (q : Q (.nx (e1.set i (some (.im (f w)))))) : wS (s_setF i x) e Q := by
  cases hw
  exact w_setI h ok q
theorem t_setL {α : Type} {f : α → PyData} {v w : List α} (hw : some v = some w) (h : x e = some (.ac (v.map f), e1)) (ok : okS [i] e1 = true) (q : Q (.nx (e1.set i (some (.im (ls f w)))))) : wS (s_setF i x) e Q := by
  cases hw
  exact w_setL h ok q
theorem t_setA {α : Type} {f : α → PyData} {v w : List α} (hw : some v = some w) (h : x e = some (.ac (v.map f), e1)) (ok : okS [i] e1 = true) (q : Q (.nx (e1.set i (some (.ac (w.map f)))))) : wS (s_set i x) e Q := by
  cases hw
  exact w_setA h ok q
theorem t_app {α : Type} {f : α → PyData} {l m : List α} {a : α} (hm : appO l a = some m) (h : ∃ r, x e = some (r, e1) ∧ imR (frzR r) = some (f a)) (h0 : isAc e[i]? = true) (hi : e1[i]? = some (some (.ac (l.map f)))) (q : Q (.nx (e1.set i (some (.ac (m.map f)))))) : wS (s_drop (x_app i x)) e Q := by
  unfold appO at hm
  by_cases z : l.length + 1 ≤ 16777216
  · rw [if_pos z] at hm
    cases hm
    obtain ⟨r, h, hr⟩ := h
    refine w_drop (r := .im .none) ?_ q
    rw [r_x_app, if_pos h0, h]
    simp only [hr, hi]
    rw [if_pos (okLen_yes (by rw [List.length_map]; exact z)), List.map_append]
    rfl
  · rw [if_neg z] at hm
    cases hm
theorem t_augI {g : Int → Int → Int} {l m : List Int} {k a b : Int} (ha : atI l k = some a) (hm : putO l k (g a b) = some m) (h0 : isAc e[i]? = true) (hk : y e = some (.im (.int k), e1)) (hi : e1[i]? = some (some (.ac (l.map PyData.int)))) (h : x e1 = some (.im (.int b), e2)) (hi2 : e2[i]? = some (some (.ac (l.map PyData.int)))) (q : Q (.nx (e2.set i (some (.ac (m.map PyData.int)))))) : wS (s_augI g i y x) e Q := by
  obtain ⟨j, hj, hm⟩ := bnd hm
  cases hm
  refine ⟨_, ?_, q⟩
  rw [r_s_augI, if_pos h0, hk]
  simp only [hi, atI_map, ha, Option.map_some, h, hi2]
  rw [List.length_map, hj]
  simp only [List.map_set]
theorem t_aug {g : Int → Int → Int} {a b w : Int} (hw : some (g a b) = some w) (h0 : e[i]? = some (some (.im (.int a)))) (h : x e = some (.im (.int b), e1)) (ok : okS [i] e1 = true) (q : Q (.nx (e1.set i (some (.im (.int w)))))) : wS (s_aug g i x) e Q := by
  cases hw
  refine ⟨_, ?_, q⟩
  rw [r_s_aug, h0]
  simp only [h]
  rw [if_pos ok]
theorem t_asg {γ : PyData → Ev → Option Ev} {S : List Nat} {r : Rs} {d : PyData} (h : x e = some (r, e1)) (hr : imR (frzR r) = some d) (ok : okS S e1 = true) (hg : γ d e1 = some e2) (q : Q (.nx e2)) : wS (s_asg γ S x) e Q := by
  refine ⟨_, ?_, q⟩
  rw [r_s_asg, h]
  dsimp only
  rw [if_pos ok, hr]
  dsimp only
  rw [hg]
def setO (l : List Int) : Option (List Int) := if l.length + 1 < 4096 then some l else none
def JK {σ τ : Type} (inv : σ → Ev → Prop) (seg : σ → Option τ) (t : τ) (Q : Fl → Prop) : Fl → Prop
  | .nx e => ∃ s, inv s e ∧ seg s = some t
  | fl => Q fl
theorem t_join {σ τ : Type} (inv : σ → Ev → Prop) (seg : σ → Option τ) {t : τ} (K : ∀ s e, inv s e → seg s = some t → wS g e Q) (h : wS f e (JK inv seg t Q)) : wS (s_seq f g) e Q := by
  obtain ⟨fl, h1, h2⟩ := h
  refine w_seq ⟨fl, h1, ?_⟩
  cases fl with
  | nx e => obtain ⟨s, h3, h4⟩ := h2; exact K s e h3 h4
  | bk e => exact h2
  | ct e => exact h2
  | rt r e => exact h2
end
section
variable {fi : Fi} {γ : PyData → Ev → Option Ev} {S : List Nat} {fb : Fs} {e e1 : Ev} {Q : Fl → Prop}
theorem t_forG {X σ ρ : Type} (enc : X → PyData) (items : List X) (body : X → σ → Option (Lp σ ρ)) (inv : σ → Ev → Prop) (rt : ρ → Rs → Ev → Prop) {s0 : σ} {l : Lp σ ρ} (hi : fi e = some (items.map enc, e1)) (h0 : inv s0 e1) (h : forG body items s0 = some l)
    (hb : ∀ x s l, body x s = some l → ∀ e, inv s e → okS S e = true ∧ ∃ e2, γ (enc x) e = some e2 ∧ wS fb e2 (PK inv rt l))
    (q1 : ∀ s, l = .nx s → ∀ e, inv s e → Q (.nx e)) (q2 : ∀ r, l = .rt r → ∀ r' e, rt r r' e → Q (.rt r' e)) : wS (s_for fi γ S fb) e Q := by
  have go : ∀ (items : List X) (s0 : σ) (e : Ev), inv s0 e → forG body items s0 = some l → ∃ fl, forGo γ S fb (items.map enc) e = some fl ∧ Q fl := by
    intro items
    induction items with
    | nil =>
      intro s0 e h0 h
      cases h
      exact ⟨_, rfl, q1 s0 rfl e h0⟩
    | cons x items ih =>
      intro s0 e h0 h
      obtain ⟨l1, hl1, h⟩ := bnd h
      obtain ⟨k1, e2, k2, fl, k3, k4⟩ := hb x s0 l1 hl1 e h0
      rw [List.map_cons]
      simp only [forGo, k1, k2, k3, if_true]
      cases l1 with
      | nx s1 =>
        cases fl with
        | nx e3 => exact ih s1 e3 k4 h
        | ct e3 => exact ih s1 e3 k4 h
        | bk e3 => exact k4.elim
        | rt r e3 => exact k4.elim
      | bk s1 =>
        cases h
        cases fl with
        | nx e3 => exact k4.elim
        | ct e3 => exact k4.elim
        | bk e3 => exact ⟨_, rfl, q1 s1 rfl e3 k4⟩
        | rt r e3 => exact k4.elim
      | rt r =>
        cases h
        cases fl with
        | nx e3 => exact k4.elim
        | ct e3 => exact k4.elim
        | bk e3 => exact k4.elim
        | rt r' e3 => exact ⟨_, rfl, q2 r rfl r' e3 k4⟩
  obtain ⟨fl, h1, h2⟩ := go items s0 e1 h0 h
  exact ⟨fl, sf hi h1, h2⟩
theorem t_forS {X σ : Type} (enc : X → PyData) (items : List X) (body : X → σ → Option σ) (inv : σ → Ev → Prop) {s0 s : σ} (hi : fi e = some (items.map enc, e1)) (h0 : inv s0 e1) (h : forS body items s0 = some s)
    (hb : ∀ x s s', body x s = some s' → ∀ e, inv s e → okS S e = true ∧ ∃ e2, γ (enc x) e = some e2 ∧ wS fb e2 (SK inv s'))
    (q1 : ∀ e, inv s e → Q (.nx e)) : wS (s_for fi γ S fb) e Q := by
  have go : ∀ (items : List X) (s0 : σ) (e : Ev), inv s0 e → forS body items s0 = some s → ∃ fl, forGo γ S fb (items.map enc) e = some fl ∧ Q fl := by
    intro items
    induction items with
    | nil =>
      intro s0 e h0 h
      cases h
      exact ⟨_, rfl, q1 e h0⟩
    | cons x items ih =>
      intro s0 e h0 h
      obtain ⟨l1, hl1, h⟩ := bnd h
      obtain ⟨k1, e2, k2, fl, k3, k4⟩ := hb x s0 l1 hl1 e h0
      rw [List.map_cons]
      simp only [forGo, k1, k2, k3, if_true]
      cases fl with
      | nx e3 => exact ih l1 e3 k4 h
      | ct e3 => exact ih l1 e3 k4 h
      | bk e3 => exact k4.elim
      | rt r e3 => exact k4.elim
  obtain ⟨fl, h1, h2⟩ := go items s0 e1 h0 h
  exact ⟨fl, sf hi h1, h2⟩
theorem t_whS {σ : Type} {n : Ev → Nat} {tst : Ft} (c : σ → Option Bool) (body : σ → Option σ) (inv : σ → Ev → Prop) {s0 s : σ} {N : Nat} (hN : n e = N) (h0 : inv s0 e) (h : whS c body N s0 = some s)
    (hc : ∀ s b, c s = some b → ∀ e, inv s e → tst e = some (b, e))
    (hb : ∀ s s', body s = some s' → ∀ e, inv s e → wS fb e (SK inv s'))
    (q1 : ∀ e, inv s e → Q (.nx e)) : wS (s_while n tst fb) e Q := by
  have go : ∀ (N : Nat) (s0 : σ) (e : Ev), inv s0 e → whS c body N s0 = some s → ∃ fl, whGo tst fb N e = some fl ∧ Q fl := by
    intro N
    induction N with
    | zero =>
      intro s0 e h0 h
      cases h
    | succ N ih =>
      intro s0 e h0 h
      obtain ⟨b, hb1, h⟩ := bnd h
      have k0 := hc s0 b hb1 e h0
      cases b with
      | false =>
        cases h
        exact ⟨_, by simp only [whGo, k0], q1 e h0⟩
      | true =>
        rw [if_pos rfl] at h
        obtain ⟨l1, hl1, h⟩ := bnd h
        obtain ⟨fl, k3, k4⟩ := hb s0 l1 hl1 e h0
        simp only [whGo, k0, k3]
        cases fl with
        | nx e3 => exact ih l1 e3 k4 h
        | ct e3 => exact ih l1 e3 k4 h
        | bk e3 => exact k4.elim
        | rt r e3 => exact k4.elim
  unfold wS s_while
  rw [hN]
  exact go N s0 e h0 h
end
section
variable {x y : Fe} {c d : Ft} {e e1 e2 : Ev} {p q : Bool} {i : Nat} {ds : List PyData}
theorem vB (h : e[i]? = some (some (.ac ds))) : x_var i e = some (.br i, e) := by
  rw [r_x_var, h]
theorem tandXt (h : c e = some (p, e1)) (k : d e1 = some (q, e1)) : t_and c d e = some (p && q, e1) := by
  rw [r_t_and, h]
  cases p with
  | false => rfl
  | true => exact k
theorem optS {α : Type} {f : α → PyData} {o : Option α} {w : α} (h : o = some w) (hx : x e = some (.im (opt f o), e1)) : x e = some (.im (f w), e1) := by
  subst h
  exact hx
end
section
variable {ρ : Type} {n nl : Nat} {g : Fs} {ds : List PyData}
def rtI (enc : ρ → PyData) (r : ρ) (r' : Rs) (e : Ev) : Prop := finR r' e = some (.im (enc r))
def rtA (enc : ρ → PyData) (r : List ρ) (r' : Rs) (e : Ev) : Prop := finR r' e = some (.ac (r.map enc))
theorem t_fnI {enc : ρ → PyData} {r : ρ} (hl : ds.length = n) (h : wS g (env0 ds nl) (RK (rtI enc) r)) : runF n nl g ds = some (.im (enc r)) := by
  obtain ⟨fl, h1, h2⟩ := h
  unfold runF
  rw [if_pos hl, h1]
  cases fl with
  | nx e => exact h2
  | bk e => exact h2.elim
  | ct e => exact h2.elim
  | rt r e => exact h2
theorem t_fnA {enc : ρ → PyData} {r : List ρ} (hl : ds.length = n) (h : wS g (env0 ds nl) (RK (rtA enc) r)) : runF n nl g ds = some (.ac (r.map enc)) := by
  obtain ⟨fl, h1, h2⟩ := h
  unfold runF
  rw [if_pos hl, h1]
  cases fl with
  | nx e => exact h2
  | bk e => exact h2.elim
  | ct e => exact h2.elim
  | rt r e => exact h2
theorem mI {φ : List PyData → List PyData → Option (Rs × List PyData)} {dds rest ds' : List PyData} {fa : Fa} {e e1 : Ev} {i : Nat} {c c' : List PyData} {d : PyData} (h0 : e[i]? = some (some (.ac c))) (ha : argsI fa e = some (rest, e1)) (hi : e1[i]? = some (some (.ac c))) (hd : rest ++ dds = ds') (h : φ c ds' = some (.im d, c')) : x_callM φ dds (a_cons (x_var i) fa) e = some (.im d, e1.set i (some (.ac c'))) := by
  rw [r_argsI] at ha
  rw [r_x_callM, r_a_cons, r_x_var, h0]
  dsimp only
  cases z : fa e with
  | none => rw [z] at ha; cases ha
  | some p =>
    obtain ⟨rs, e3⟩ := p
    rw [z] at ha
    dsimp only at ha
    cases y : imAll rs with
    | none => rw [y] at ha; cases ha
    | some es =>
      rw [y] at ha
      cases ha
      simp only [frzR, y, hi, hd, h]
end
end DL
namespace DL
open L2 PySem PySem.Spec PySem.W PyProof.Rows
end DL
namespace DL
open PySem PySem.Spec PyProof.Rows L2
structure Xc where
  c : Str
  fs : List (Str × PyData)
abbrev Ex (α : Type) := α ⊕ (Xc × Ev)
abbrev Fsx := Ev → Option (Ex Fl)
abbrev Fex := Ev → Option (Ex (Rs × Ev))
/-- its dict -/
def FsAt (K : PySem.W.Frag) (G : Hp) (fs : List (Str × V)) (ds : List (Str × PyData)) : Prop := fs.map (·.1) = ds.map (·.1) ∧ DpAll K G (fs.map (·.2)) (ds.map (·.2))
def XcAt (K : PySem.W.Frag) (mg : Str → Option Value) (G : Hp) (cls : Value) (d : Option Addr) (x : Xc) : Prop := ∃ (C dd : Addr) (fs : List (Str × V)), mg x.c = some (.ref C) ∧ cls = .ref C ∧ d = some dd ∧ G dd = some (.xd fs) ∧ FsAt K G fs x.fs
theorem FsAt.same {K : PySem.W.Frag} {G G' : Hp} {fs : List (Str × V)} {ds : List (Str × PyData)} (h : FsAt K G fs ds) (s : Same G G') : FsAt K G' fs ds := ⟨h.1, dpAll_same s h.2⟩
theorem XcAt.same {K : PySem.W.Frag} {mg : Str → Option Value} {G G' : Hp} {cls : Value} {d : Option Addr} {x : Xc} (h : XcAt K mg G cls d x) (s : Same G G') : XcAt K mg G' cls d x := by
  obtain ⟨C, dd, fs, h1, h2, h3, h4, h5⟩ := h
  exact ⟨C, dd, fs, h1, h2, h3, s dd _ h4, h5.same s⟩
def PoX (K : PySem.W.Frag) (mg : Str → Option Value) (m : Option Addr) (E : Ef) (G0 G : Hp) (D : Ends) (W : WX) : Ex Fl → Prop
  | .inl fl => PoS K m E G0 G D fl
  | .inr (x, e) => ∀ cls d G' σ H, Same G G' → Rz K m E G0 G' e σ H → XcAt K mg G' cls d x → W cls d σ H
theorem PoX.aft {K : PySem.W.Frag} {mg : Str → Option Value} {m : Option Addr} {E : Ef} {G0 G G' : Hp} {D : Ends} {W : WX} {o : Ex Fl} (P : PoX K mg m E G0 G D W o) (s : Same G G') : PoX K mg m E G0 G' D W o := by
  cases o with
  | inl fl => exact PoS.aft P s
  | inr y => exact fun cls d G2 σ H s2 R X => P cls d G2 σ H (s.trans s2) R X
/-- the weakest reading -/
def tsX (K : PySem.W.Frag) (mg : Str → Option Value) (f : Fsx) (W : WX) : TS := fun D σ H => ∃ m E G0 G e o, Rz K m E G0 G e σ H ∧ f e = some o ∧ PoX K mg m E G0 G D W o
structure SDX (X : Cx) (W : WX) (st : Stmt) (f : Fsx) : Prop where
  run : PS X st (tsX X.K X.mg f W)
structure SsDX (X : Cx) (W : WX) (sts : List Stmt) (f : Fsx) : Prop where
  run : PSs X sts (tsX X.K X.mg f W)
def PoE (K : PySem.W.Frag) (mg : Str → Option Value) (m : Option Addr) (E : Ef) (G0 : Hp) (σ : St) (G H : Hp) (e : Ev) (W : WX) (Q : VK) : Ex (Rs × Ev) → Prop
  | .inl (r, e') => Po K m E G0 σ G H e r e' Q
  | .inr (x, e') => ∀ cls d G' H', Rl K m E G0 G' e' σ H' → Stp σ G H e G' H' e' → XcAt K mg G' cls d x → W cls d σ H'
def teX (K : PySem.W.Frag) (mg : Str → Option Value) (f : Fex) (W : WX) : TE := fun σ H Q => ∃ m E G0 G e o, Rl K m E G0 G e σ H ∧ f e = some o ∧ PoE K mg m E G0 σ G H e W Q o
structure EDX (X : Cx) (W : WX) (x : Expr) (f : Fex) : Prop where
  run : PE X x (teX X.K X.mg f W)
theorem ps_imp {X : Cx} {st : Stmt} {t u : TS} (h : PS X st t) (k : ∀ D σ H, u D σ H → t D σ H) : PS X st u := ⟨fun pins s σ H D I q => h.run pins s σ H D I (k D σ H q)⟩
theorem pss_imp {X : Cx} {st : List Stmt} {t u : TS} (h : PSs X st t) (k : ∀ D σ H, u D σ H → t D σ H) : PSs X st u := ⟨fun pins s σ H D I q => h.run pins s σ H D I (k D σ H q)⟩
theorem pe_imp {X : Cx} {x : Expr} {t u : TE} (h : PE X x t) (k : ∀ σ H Q, u σ H Q → t σ H Q) : PE X x u := ⟨fun pins s σ H Q I q => h.run pins s σ H Q I (k σ H Q q)⟩
section
variable {X : Cx} {W : WX} {st : Stmt} {rest : List Stmt} {f g : Fsx} {fs : Fs} {pos : Pos} {a : Expr} {fe : Fe}
def xS (f : Fs) : Fsx := fun e => (f e).map .inl
def xE (f : Fe) : Fex := fun e => (f e).map .inl
theorem SD.x (h : SD X st fs) : SDX X W st (xS fs) := by
  obtain ⟨t, p, k⟩ := h
  refine ⟨ps_imp p fun D σ H ⟨m, E, G0, G, e, o, R, q, P⟩ => ?_⟩
  unfold xS at q
  cases h1 : fs e with
  | none => rw [h1] at q; cases q
  | some fl =>
    rw [h1] at q
    cases q
    exact k m E G0 G e σ H fl D R h1 P
theorem SsD.x {sts : List Stmt} (h : SsD X sts fs) : SsDX X W sts (xS fs) := by
  obtain ⟨t, p, k⟩ := h
  refine ⟨pss_imp p fun D σ H ⟨m, E, G0, G, e, o, R, q, P⟩ => ?_⟩
  unfold xS at q
  cases h1 : fs e with
  | none => rw [h1] at q; cases q
  | some fl =>
    rw [h1] at q
    cases q
    exact k m E G0 G e σ H fl D R h1 P
theorem ED.x (h : ED X a fe) : EDX X W a (xE fe) := by
  obtain ⟨t, p, k⟩ := h
  refine ⟨pe_imp p fun σ H Q ⟨m, E, G0, G, e, o, R, q, P⟩ => ?_⟩
  unfold xE at q
  cases h1 : fe e with
  | none => rw [h1] at q; cases q
  | some z =>
    obtain ⟨r, e'⟩ := z
    rw [h1] at q
    cases q
    exact k m E G0 G e σ H r e' Q R h1 P
def x_seq (f g : Fsx) : Fsx := fun e => match f e with
  | some (.inl (.nx e1)) => g e1
  | o => o
theorem ssdx_nil : SsDX X W [] (xS s_nx) := SsD.x ssd_nil
theorem ssdx_cons (h : SDX X W st f) (h2 : SsDX X W rest g) : SsDX X W (st :: rest) (x_seq f g) := by
  refine ⟨pss_imp (pss_cons h.run h2.run) fun D σ H ⟨m, E, G0, G, e, o, R, q, P⟩ => ?_⟩
  unfold x_seq at q
  show tsX X.K X.mg f W { D with nx := tsX X.K X.mg g W D } σ H
  split at q
  · rename_i e1 h1
    exact ⟨m, E, G0, G, e, _, R, h1, fun G' σ' H' s R' => ⟨m, E, G0, G', e1, o, R', q, P.aft s⟩⟩
  · rename_i h1
    refine ⟨m, E, G0, G, e, o, R, q, ?_⟩
    cases o with
    | inl fl =>
      cases fl with
      | nx e1 => exact absurd q (h1 e1)
      | bk e1 => exact P
      | ct e1 => exact P
      | rt r e1 => exact P
    | inr y => exact P
theorem ssdx_one (h : SDX X W st f) : SsDX X W [st] f := by
  refine ⟨pss_imp (pss_one h.run) fun D σ H q => q⟩
def x_ifS (c : Ft) (f g : Fsx) : Fsx := fun e => match c e with
  | some (true, e1) => f e1
  | some (false, e1) => g e1
  | none => none
theorem sdx_if {tst : Expr} {A B : List Stmt} {c : Ft} (hc : TD X tst c) (ha : SsDX X W A f) (hb : SsDX X W B g) : SDX X W (.If tst A B pos) (x_ifS c f g) := by
  obtain ⟨t, p, k⟩ := hc
  refine ⟨ps_imp (ps_if p ha.run hb.run) fun D σ H ⟨m, E, G0, G, e, o, R, q, P⟩ => ?_⟩
  unfold x_ifS at q
  split at q
  · rename_i e1 h1
    refine k m E G0 G e σ H true e1 _ R.r h1 fun G' H' R' S' => ?_
    rw [if_pos rfl]
    exact ⟨m, E, G0, G', e1, o, R.exp R' S', q, P.aft S'.gg⟩
  · rename_i e1 h1
    refine k m E G0 G e σ H false e1 _ R.r h1 fun G' H' R' S' => ?_
    rw [if_neg Bool.false_ne_true]
    exact ⟨m, E, G0, G', e1, o, R.exp R' S', q, P.aft S'.gg⟩
  · cases q
variable {fx : Fex}
def x_drop (f : Fex) : Fsx := fun e => match f e with
  | some (.inl (_, e1)) => some (.inl (.nx e1))
  | some (.inr y) => some (.inr y)
  | none => none
theorem sdx_expr (h : EDX X W a fx) (hs : swapsWith a none pos.line X.env = pure false := by rfl) : SDX X W (.Expr a pos) (x_drop fx) := by
  refine ⟨ps_imp (ps_expr h.run hs) fun D σ H ⟨m, E, G0, G, e, o, R, q, P⟩ => ?_⟩
  unfold x_drop at q
  split at q
  · rename_i r e1 h1
    cases q
    exact ⟨m, E, G0, G, e, _, R.r, h1, fun v G' H' R' S' V N => P G' σ H' S'.gg (R.exp R' S')⟩
  · rename_i y h1
    cases q
    obtain ⟨x, e1⟩ := y
    exact ⟨m, E, G0, G, e, _, R.r, h1, fun cls d G' H' R' S' X' => P cls d G' σ H' S'.gg (R.exp R' S') X'⟩
  · cases q
def x_ret (f : Fex) : Fsx := fun e => match f e with
  | some (.inl (r, e1)) => some (.inl (.rt r e1))
  | some (.inr y) => some (.inr y)
  | none => none
theorem sdx_ret (h : EDX X W a fx) : SDX X W (.Return (some a) pos) (x_ret fx) := by
  refine ⟨ps_imp (ps_ret h.run) fun D σ H ⟨m, E, G0, G, e, o, R, q, P⟩ => ?_⟩
  unfold x_ret at q
  split at q
  · rename_i r e1 h1
    cases q
    exact ⟨m, E, G0, G, e, _, R.r, h1, fun v G' H' R' S' V N => P v G' σ H' S'.gg (R.exp R' S') V⟩
  · rename_i y h1
    cases q
    obtain ⟨x, e1⟩ := y
    exact ⟨m, E, G0, G, e, _, R.r, h1, fun cls d G' H' R' S' X' => P cls d G' σ H' S'.gg (R.exp R' S') X'⟩
  · cases q
end
end DL
namespace DL
open PySem PySem.Spec PyProof.Rows L2
abbrev Ro := Rs ⊕ Xc
def spX (K : PySem.W.Frag) (mg : Str → Option Value) (n : Nat) (φ : List PyData → Option Ro) : Sp := fun vs H Q E => ∃ G ds o, Same G H ∧ DpAll K G vs ds ∧ vs.length = n ∧ φ ds = some o ∧
  (∀ r, o = .inl r → ∀ v G' H', Same G G' → Same G' H' → Same H H' → (∀ a, G a = none → H a ≠ none → G' a = none) → VrF K G' H H' v r → Q v H') ∧
  (∀ x, o = .inr x → ∀ cls d G' H', Same G G' → Same G' H' → Same H H' → (∀ a, G a = none → H a ≠ none → G' a = none) → XcAt K mg G' cls d x → E cls d H')
inductive KfX (P : Program) (w : World) (K : PySem.W.Frag) (mg : Str → Option Value) (base : Heap) (k : Nat) (x : Str) (sp : Sp) (dvs : List V) : Prop where
  | kept (at_ : Addr) (fd : FuncData) (names : List Str) (given : List Value) (fn : FnOk P w K mg base (L2N.CX P w) k at_ fd names sp) (here : mg x = some (.ref at_)) (stays : PySem.W.keepIn K (.ref at_) = true) (binds : Binds K fd names given) (vals : Vals dvs given)
def runX (n nl : Nat) (g : Fsx) (ds : List PyData) : Option Ro := if ds.length = n then (match g (env0 ds nl) with
  | some (.inl (.rt r e)) => (finR r e).map .inl
  | some (.inl (.nx _)) => some (.inl (.im .none))
  | some (.inr (x, _)) => some (.inr x)
  | _ => none) else none
theorem runX_len {n nl : Nat} {g : Fsx} : ∀ ds, (runX n nl g ds).isSome = true → ds.length = n := fun ds h => by
  unfold runX at h
  by_cases z : ds.length = n
  · exact z
  · rw [if_neg z] at h
    cases h
section
variable {P : Program} {w : World} {K : PySem.W.Frag} {mg : Str → Option Value} {base : Heap} {x qual : Str} {params : Arguments} {body : List Stmt} {scope : Scope} {dvs : List V} {kws : List (Str × V)} {f : Addr} {fd : FuncData} {N ps : List Str} {k n nl : Nat} {g : Fsx}
theorem fnX (F : FunD K x qual params body scope dvs kws f fd) (S : FnScope N ps scope) (hp : ps.length = n) (hl : n + nl = N.length)
    (hb : ∀ (cdv : Value) (A : Around) (outer : List Env) (s : Shared) (H : Hp) (E : XK), Room k (A.deeper (envOfC qual scope s.heap.objs.size f cdv)) → L2N.Takes (cxOf (L2N.CX P w) P w K mg base N qual scope f cdv A outer s H E) (fun cls d _ H => E cls d H) →
      SsDX (cxOf (L2N.CX P w) P w K mg base N qual scope f cdv A outer s H E) (fun cls d _ H => E cls d H) body g) :
    FnOk P w K mg base (L2N.CX P w) (k + 1) f fd ps (spX K mg n (runX n nl g)) := by
  refine F.ok S (fun vs H Q E h => ?_) fun cdv A outer s H vs Q E hr h => ?_
  · obtain ⟨_, _, _, _, _, h, _⟩ := h
    rw [h, hp]
  · have b := hb cdv A outer s H E hr (L2N.takes_of rfl rfl rfl rfl)
    obtain ⟨G, ds, o, s1, hd, hv, hr2, hQ, hE⟩ := h
    refine ⟨_, b.run, ?_⟩
    have Rz0 : Rz K none (Ef.of H) G G (env0 ds nl) (L2.start N vs) H := rz_start s1 hd (by omega)
    unfold runX at hr2
    rw [if_pos (by rw [← dpAll_len hd]; exact hv)] at hr2
    have nw : ∀ {e' : Ev} {G' : Hp} {σ' : St} {H' : Hp}, Rz K none (Ef.of H) G G' e' σ' H' → (∀ a, G a = none → H a ≠ none → G' a = none) := fun R' => R'.r.nw
    have hh : ∀ {e' : Ev} {G' : Hp} {σ' : St} {H' : Hp}, Rz K none (Ef.of H) G G' e' σ' H' → Same H H' := fun R' a o z => R'.r.eh a o z (by simp)
    split at hr2
    · rename_i r' e' h1
      refine ⟨none, Ef.of H, G, G, _, _, Rz0, h1, fun v G' σ' H' s2 R' V' => ?_⟩
      unfold finR at hr2
      cases r' with
      | im d =>
        cases hr2
        exact hQ _ rfl v G' H' s2 R'.r.gh (hh R') (nw R') V'
      | ac d =>
        cases hr2
        obtain ⟨p, ws, a1, a2, a3, a4, a5, _⟩ := V'
        exact hQ _ rfl v G' H' s2 R'.r.gh (hh R') (nw R') ⟨p, ws, a1, a2, a3, a4, a5⟩
      | br i =>
        dsimp only at hr2
        split at hr2
        · rename_i d h2
          cases hr2
          obtain ⟨d', b1, b2⟩ := V'
          obtain ⟨p, ws, a1, a2, a3, a4, a5⟩ := R'.r.ac i d h2
          rw [a1] at b2
          cases b2
          have a5 : H p = none := by
            rcases a5 with a5 | a5
            · exact a5
            · cases a5.1
          exact hQ _ rfl _ G' H' s2 R'.r.gh (hh R') (nw R') ⟨p, ws, rfl, a5, a2, a3, a4⟩
        · cases hr2
    · rename_i e' h1
      cases hr2
      exact ⟨none, Ef.of H, G, G, _, _, Rz0, h1, fun G' σ' H' s2 R' => hQ _ rfl .non G' H' s2 R'.r.gh (hh R') (nw R') .non⟩
    · rename_i xc e' h1
      cases hr2
      exact ⟨none, Ef.of H, G, G, _, _, Rz0, h1, fun cls d G' σ' H' s2 R' X' => hE _ rfl cls d G' H' s2 R'.r.gh (hh R') (nw R') X'⟩
    · cases hr2
end
def x_callX (φ : List PyData → Option Ro) (dds : List PyData) (fa : Fa) : Fex := fun e => match argsI fa e with
  | some (ds, e1) => (match φ (ds ++ dds) with
    | some (.inl (.im d)) => some (.inl (.im d, e1))
    | some (.inl (.ac cs)) => some (.inl (.ac cs, e1))
    | some (.inr x) => some (.inr (x, e1))
    | _ => none)
  | none => none
def tCallX (sp : Sp) (dvs : List V) (W : WX) (t : TA) : TE := fun σ H Q => t σ H fun vs H1 => sp (vs ++ dvs) H1 Q (fun cls d H => W cls d σ H)
section
variable {X : Cx} {W : WX} {k j n : Nat} {f : Addr} {fd : FuncData} {ps : List Str} {sp : Sp} {x : Str} {p pos : Pos} {a : Expr} {es : List Expr} {t : TA} {dvs : List V} {ds : List Value} {dds : List PyData} {fa : Fa}
theorem pe_callXd (F : FnOk X.prog X.w X.K X.mg X.base (L2N.CX X.prog X.w) k f fd ps sp) (hr : Room k X.A) (hg : Gl X x) (hm : X.mg x = some (.ref f)) (hk : PySem.W.keepIn X.K (.ref f) = true) (hb : Binds X.K fd ps ds) (hd : Vals dvs ds) (tk : L2N.Takes X W)
    (ha : PA X (a :: es) t) (hdb : (x == ("__debug__" : Str)) = false := by decide) (he : starEach (a :: es) X.env = (false, eval a X.env) :: starEach es X.env := by rfl) (hpl : (backTo pos (starEach es X.env)).any (·.1) = false := by rfl) :
    PE X (.Call (.Name x p) (a :: es) [] pos) (tCallX sp dvs W t) := by
  refine ⟨fun pins s σ H Q I h => wpAny_Call_Name_kw (ld_glob I hg hm (PySem.W.callWith_K (h₀ := X.base) I.ok.mod.kin hk (thn (ha.run pos pins s σ H _ I h) fun us s1 y => ?_) he hpl) hdb)⟩
  obtain ⟨vs, H1, I1, r, q⟩ := y
  have v2 : Vals (vs ++ dvs) (us ++ ds) := r.append hd
  have hl : (us ++ ds).length = ps.length := v2.length.symm.trans (F.len _ _ _ _ q)
  refine ⟨I1.kIn, wpAny_call (codeAny_mono (F.run X.A X.stack s1 H1 ⟨us, []⟩ (us ++ ds) (vs ++ dvs) Q _ hr I1.env0 (hb s1 us I1.kIn hl) v2 q) fun e s' z => ?_)⟩
  match e, z with
  | .error e, z => exact L2N.passAt tk σ pins H1 s1 e s' I1 z
  | .ok (.ret u), z => exact I1.after z
theorem edx_call {φ : List PyData → Option Ro} (F : KfX X.prog X.w X.K X.mg X.base k x (spX X.K X.mg n φ) dvs) (hr : Room j X.A) (hk : k ≤ j) (hd : dvsD X.K dvs dds) (hn : ∀ ds, (φ ds).isSome = true → ds.length = n) (tk : L2N.Takes X W) (h : AD X (a :: es) fa) (hg : Gl X x := by rfl)
    (hdb : (x == ("__debug__" : Str)) = false := by decide) (he : starEach (a :: es) X.env = (false, eval a X.env) :: starEach es X.env := by rfl) (hpl : (backTo pos (starEach es X.env)).any (·.1) = false := by rfl) :
    EDX X W (.Call (.Name x p) (a :: es) [] pos) (x_callX φ dds fa) := by
  obtain ⟨f, fd, ps, ds, F, hm, kp, hb, hv⟩ := F
  obtain ⟨t, pa, kk⟩ := h
  refine ⟨pe_imp (pe_callXd F (hr.mono hk) hg hm kp hb hv tk pa hdb he hpl) fun σ H Q ⟨m, E, G0, G, e, o, R, q, P⟩ => ?_⟩
  unfold x_callX at q
  cases h1 : argsI fa e with
  | none => simp only [h1] at q; cases q
  | some z =>
    obtain ⟨ds, e1⟩ := z
    simp only [h1] at q
    obtain ⟨rs, q1, q2⟩ := argsI_ok h1
    refine kk m E G0 G e σ H rs e1 _ R q1 fun vs G1 H1 R1 S1 V1 => ?_
    have D1 := vr_imAll V1 q2
    have D2 := dpAll_app D1 (hd G1)
    cases h2 : φ (ds ++ dds) with
    | none => simp only [h2] at q; cases q
    | some y =>
      refine ⟨G1, ds ++ dds, y, R1.gh, D2, (by rw [dpAll_len D2]; exact hn _ (by rw [h2]; rfl)), h2, fun r hy v G' H' s1 s2 s3 nw vr => ?_, fun xc hy cls d G' H' s1 s2 s3 nw xt => ?_⟩
      · subst hy
        obtain ⟨R2, S2⟩ := R1.called s1 s2 s3 nw
        obtain ⟨V2, N2⟩ := R1.vrf vr
        cases r with
        | im d =>
          simp only [h2, Option.some.injEq] at q
          subst q
          exact P v G' H' R2 (S1.trans S2) V2 (nw_back S1 v N2)
        | ac d =>
          simp only [h2, Option.some.injEq] at q
          subst q
          exact P v G' H' R2 (S1.trans S2) V2 (nw_back S1 v N2)
        | br d => simp only [h2] at q; cases q
      · subst hy
        obtain ⟨R2, S2⟩ := R1.called s1 s2 s3 nw
        simp only [h2, Option.some.injEq] at q
        subst q
        exact P cls d G' H' R2 (S1.trans S2) xt
end
/-- __init__: a field for each name -/
def spI (C : Addr) (ns : List Str) : Sp := fun vs H Q _ => ∃ (a : Addr) (us : List V), vs = .ref a :: us ∧ us.length = ns.length ∧ H a = some (exo a C none) ∧
  ∀ (dx : Addr) (H' : Hp), H dx = none → dx ≠ a → H' a = some (exo a C (some dx)) → H' dx = some (exd dx (ns.zip us).reverse) → (∀ b, b ≠ a → b ≠ dx → H' b = H b) → Q .non H'
/-- what is told of such a class -/
structure ExT (P : Program) (w : World) (K : PySem.W.Frag) (mg : Str → Option Value) (base : Heap) (x : Str) (ns : List Str) : Prop where
  ex : ∃ (C fI : Addr) (fd : FuncData) (ps : List Str), mg x = some (.ref C) ∧ OexC K C ∧ PySem.W.findIn K (.ref C) "__init__" = some (some (.ref fI)) ∧ PySem.W.typeIn K (.ref fI) = some (.type "function") ∧ FnOk P w K mg base CX0 1 fI fd ps (spI C ns) ∧ Binds K fd ps []
def x_raise (c : Str) (ns : List Str) (fa : Fa) : Fsx := fun e => match argsI fa e with
  | some (ds, e1) => if ds.length = ns.length ∧ ns.length ≤ 1000 then some (.inr (⟨c, (ns.zip ds).reverse⟩, e1)) else none
  | none => none
theorem zip_fst {α : Type} : ∀ (ns : List Str) (us : List α), us.length = ns.length → (ns.zip us).map (·.1) = ns
  | [], _, _ => rfl
  | n :: ns, [], h => by cases h
  | n :: ns, u :: us, h => by
    rw [List.zip_cons_cons, List.map_cons, zip_fst ns us (by simpa using h)]
theorem zip_snd {α : Type} : ∀ (ns : List Str) (us : List α), us.length = ns.length → (ns.zip us).map (·.2) = us
  | [], [], _ => rfl
  | [], u :: us, h => by cases h
  | n :: ns, [], h => by cases h
  | n :: ns, u :: us, h => by
    rw [List.zip_cons_cons, List.map_cons, zip_snd ns us (by simpa using h)]
theorem dpAll_rev' {K : PySem.W.Frag} {G : Hp} {vs : List V} {ds : List PyData} (h : DpAll K G vs ds) : DpAll K G vs.reverse ds.reverse := dpAll_rev h
theorem fsAt_zip {K : PySem.W.Frag} {G : Hp} {ns : List Str} {vs : List V} {ds : List PyData} (h : DpAll K G vs ds) (hl : ds.length = ns.length) : FsAt K G (ns.zip vs).reverse (ns.zip ds).reverse := by
  have lv : vs.length = ns.length := by rw [dpAll_len h, hl]
  unfold FsAt
  rw [List.map_reverse, List.map_reverse, List.map_reverse, List.map_reverse, zip_fst ns vs lv, zip_fst ns ds hl, zip_snd ns vs lv, zip_snd ns ds hl]
  exact ⟨rfl, dpAll_rev' h⟩
theorem fin_oex {X : Cx} {pins : List (Addr × Obj)} {σ : St} {H0 H3 : Hp} {Q : XK} {s0 s3 : Shared} {h1 : Heap} {p C dd : Addr} {fs : List (Str × V)} (T : Raises X (.ref C)) (I0 : Inv X pins σ H0 s0) (hp : s0.heap.objs.size ≤ p)
    (kp : ∀ b u, s0.heap.get? b = some u → h1.get? b = some u) (n3 : Un (frs X.stack) [] (upd H0 p (exo p C none)) H3 h1 s3.heap) (ok3 : HOk X.prog X.w H3 s3.heap) (os3 : s3.os = s0.os) (bare3 : AllBare s3.gens)
    (e1 : H3 p = some (exo p C (some dd))) (e2 : H3 dd = some (exd dd fs)) (e3 : H0 dd = none) (q : Q (.ref C) (some dd) (upd (L2.del H3 p) dd (.xd fs))) : L2N.MkP X pins σ Q (.ref p) s3 := by
  obtain ⟨hh0, gg0, dd0, tt0, oo0⟩ := s0
  obtain ⟨hh3, gg3, dd3, tt3, oo3⟩ := s3
  obtain ⟨args, Gm, J, k3, none3, obj3, gone3⟩ := mk_end0 (d2 := dd3) (t2 := tt3) I0 hp kp n3 ok3 os3 bare3 e1 e2 e3
  refine ⟨p, _, _, ⟨Gm, gg3, dd3, tt3, oo3⟩, _, .ref C, some dd, rfl, J, k3, none3, obj3, ?_, rfl, rfl, gone3, rfl, bare3, T, q⟩
  exact ⟨rfl, rfl, fun ws hw => by
    cases hw
    rfl⟩
theorem pmk_oexN {X : Cx} {CX : CXT} {e0 : Expr} {rest : List Expr} {ta : TA} {np cp : Pos} {x : Str} {C fI : Addr} {k : Nat} {fd : FuncData} {ps : List Str} {sp : Sp} {gs : List Value} {gvs : List V} (T : OexC X.K C) (hi : PySem.W.findIn X.K (.ref C) "__init__" = some (some (.ref fI)))
    (ht : PySem.W.typeIn X.K (.ref fI) = some (.type "function")) (F : FnOk X.prog X.w X.K X.mg X.base CX k fI fd ps sp) (room : Room (k + 1) X.A) (hb : Binds X.K fd ps gs) (hv : Vals gvs gs) (hx : Passes CX X (fun _ _ _ => False)) (hg : Gl X x) (hm : X.mg x = some (.ref C))
    (ha : PA X (e0 :: rest) ta) (hdb : (x == ("__debug__" : Str)) = false := by decide) (hst : starEach (e0 :: rest) X.env = (false, eval e0 X.env) :: starEach rest X.env := by rfl) (hpl : (backTo cp (starEach rest X.env)).any (·.1) = false := by rfl) :
    L2N.PMk X (.Call (.Name x np) (e0 :: rest) [] cp) (tMkO C sp gvs ta) := by
  intro pins s σ H Q I q0
  have cls := T.cls
  obtain ⟨_, _, _, _, bmro, _, _, _, _, _, _, _, _, _, _, lookC, refs⟩ := cls
  refine wpAny_Call_Name_kw (ld_glob I hg hm (PySem.W.callWith_K (h₀ := X.base) I.ok.mod.kin T.kC ?_ hst hpl) hdb)
  refine thn (ha.run cp pins s σ H _ I q0) fun given sA ⟨vs, HA, IA, rel, few, mk⟩ => ⟨IA.kIn, ?_⟩
  show wpAny _ _ (call (.ref C) given) _ _ _
  -- the tuple of the arguments, then the exception
  have keep : ∀ b u, sA.heap.get? b = some u → ((sA.heap.push (PySem.W.kdv_tup given)).push (PySem.HandSPX.excO C sA.heap.objs.size)).get? b = some u := fun b u z => Heap.get?_push_of_some _ (Heap.get?_push_of_some _ z)
  have up : sA.heap.objs.size ≤ sA.heap.objs.size + 1 := Nat.le_succ _
  have fresh : HA (sA.heap.objs.size + 1) = none := IA.hok.fresh up
  have body := mk _ fresh
  obtain ⟨hp, gs0, dr, tk, os⟩ := sA
  have stands : ((hp.push (PySem.W.kdv_tup given)).push (PySem.HandSPX.excO C hp.objs.size)).get? (hp.objs.size + 1) = some (PySem.HandSPX.excO C hp.objs.size) := by
    heap_get
  have IB := IA.laid (t' := tk) (o := exo (hp.objs.size + 1) C none) keep up (exo_ok stands)
  have all : Vals (V.ref (hp.objs.size + 1) :: (vs ++ gvs)) (Value.ref (hp.objs.size + 1) :: (given ++ gs)) := .cons rfl (rel.append hv)
  have many : (Value.ref (hp.objs.size + 1) :: given ++ gs).length = ps.length := (all.length.symm.trans (F.len _ _ _ _ body) :)
  have small : given.length ≤ sizeLine := by
    have z := Paired.length rel
    rw [sizeLine_eq]
    omega
  have inits := F.run _ X.stack _ _ ⟨Value.ref (hp.objs.size + 1) :: given, []⟩ _ _ _ (fun _ _ _ => False) (room.make C given []) (IB.env0.make C given []) (hb _ (Value.ref (hp.objs.size + 1) :: given) IB.kIn many) all body
  refine wpAny_call (PySem.HandSPX.call_own PySem.F.excBase_ValueError (fun Y => PySem.HandSPX.refsVE_contains Y bmro refs) (IA.kIn _ _ lookC) (PySem.W.looks_findIn IA.kIn hi) (fun self => PySem.W.bind_fn IA.kIn self ht) small (codeAny_mono inits fun r sZ z => ?_))
  match r, z with
  | .error er, z => exact hx pins σ _ _ er sZ IB z
  | .ok .next, z => exact z.elim
  | .ok .brk, z => exact z.elim
  | .ok .cont, z => exact z.elim
  | .ok (.ret u), ⟨v, H2, os2, bare2, un2, hok2, rv, ev, dd, fs, ea, ed, hd1, q2⟩ =>
    subst ev
    exact ⟨rv, fin_oex (raises_own T.exC T.tyC) IA up keep un2 hok2 os2 bare2 ea ed hd1 q2⟩
section
variable {X : Cx} {W : WX} {x : Str} {ns : List Str} {p p2 pos : Pos} {a : Expr} {es : List Expr} {fa : Fa} {j : Nat}
theorem sdx_raise (T : ExT X.prog X.w X.K X.mg X.base x ns) (hr : Room j X.A) (hj : 2 ≤ j) (hc : X.calm = true) (tk : L2N.Takes X W) (h : AD X (a :: es) fa) (hg : Gl X x := by rfl)
    (hdb : (x == ("__debug__" : Str)) = false := by decide) (he : starEach (a :: es) X.env = (false, eval a X.env) :: starEach es X.env := by rfl) (hpl : (backTo p2 (starEach es X.env)).any (·.1) = false := by rfl) :
    SDX X W (.Raise (some (.Call (.Name x p) (a :: es) [] p2)) none pos) (x_raise x ns fa) := by
  obtain ⟨C, fI, fd, ps, gC, T1, iC, tI, F1, hb⟩ := T
  obtain ⟨t, pa, kk⟩ := h
  refine ⟨ps_imp (L2N.ps_raise hc tk (pmk_oexN T1 iC tI F1 (hr.mono hj) hb .nil (fun _ _ _ _ _ _ _ z => z.elim) hg gC pa hdb he hpl)) fun D σ H ⟨m, E, G0, G, e, o, R, q, P⟩ => ?_⟩
  unfold x_raise at q
  cases h1 : argsI fa e with
  | none => simp only [h1] at q; cases q
  | some z =>
    obtain ⟨ds, e1⟩ := z
    simp only [h1] at q
    by_cases hl : ds.length = ns.length ∧ ns.length ≤ 1000
    · rw [if_pos hl] at q
      cases q
      obtain ⟨rs, q1, q2⟩ := argsI_ok h1
      refine kk m E G0 G e σ H rs e1 _ R.r q1 fun vs G1 H1 R1 S1 V1 => ?_
      have D1 := vr_imAll V1 q2
      have lv : vs.length = ns.length := by rw [dpAll_len D1]; exact hl.1
      refine ⟨by omega, fun b hb1 => ⟨b, vs, by rw [List.append_nil], lv, upd_same, fun dx H' d1 d2 d3 d4 d5 => ⟨rfl, dx, (ns.zip vs).reverse, d3, d4, ?_, ?_⟩⟩⟩
      · rw [upd_ne d2] at d1
        exact d1
      · have d0 : H1 dx = none := by rwa [upd_ne d2] at d1
        have eq : upd (L2.del H' b) dx (.xd (ns.zip vs).reverse) = upd H1 dx (.xd (ns.zip vs).reverse) := by
          funext c
          by_cases y : c = dx
          · subst y
            rw [upd_same, upd_same]
          · rw [upd_ne y, upd_ne y]
            by_cases y2 : c = b
            · subst y2
              rw [L2.del_same]
              exact hb1.symm
            · rw [L2.del_ne y2, d5 c y2 y, upd_ne y2]
        rw [eq]
        obtain ⟨R2, S2⟩ := R1.newG (o := .xd (ns.zip vs).reverse) d0
        refine P (.ref C) (some dx) _ σ _ (S1.gg.trans S2.gg) (R.exp R2 (S1.trans S2)) ⟨C, dx, _, gC, rfl, rfl, upd_same, ?_⟩
        exact (fsAt_zip D1 hl.1).same S2.gg
    · rw [if_neg hl] at q
      cases q
end
end DL
namespace DL
open PySem PySem.Spec PyProof.Rows L2
section
variable {P : Program} {w : World} {K : PySem.W.Frag} {mg : Str → Option Value} {base : Heap} {x qual : Str} {params : Arguments} {body : List Stmt} {scope : Scope} {dvs : List V} {kws : List (Str × V)} {f C : Addr} {fd : FuncData} {N ps : List Str} {f1 f2 : Str}
theorem init2 (F : FunD K x qual params body scope dvs kws f fd) (S : FnScope N ps scope) (hp : ps.length = 3) (T : OexC K C) (n1 : PySem.W.findIn K (.ref C) f1 = some none) (n2 : PySem.W.findIn K (.ref C) f2 = some none)
    (hb : ∀ (cdv : Value) (A : Around) (outer : List Env) (s : Shared) (H : Hp) (E : XK), PSs (cxOf CX0 P w K mg base N qual scope f cdv A outer s H E) body (tSeq (tOst K f1 (tVar 0) (tVar 1)) (tSeq (tOst K f2 (tVar 0) (tVar 2)) tNext))) : FnOk P w K mg base CX0 1 f fd ps (spI C [f1, f2]) := by
  refine F.ok S (fun vs H Q E h => ?_) fun cdv A outer s H vs Q E hr h => ⟨_, hb cdv A outer s H E, ?_⟩
  · obtain ⟨a, us, rfl, h1, _⟩ := h
    rw [hp, List.length_cons, h1]
    rfl
  · obtain ⟨a, us, rfl, h1, h2, h3⟩ := h
    match us, h1 with
    | [u1, u2], _ =>
      refine ⟨u1, st_at rfl, .ref a, st_at rfl, a, C, rfl, T, n1, .inl ⟨h2, fun dx d1 d2 => ?_⟩⟩
      have e2 : a ≠ dx := fun z => d2 z.symm
      refine ⟨u2, st_at rfl, .ref a, st_at rfl, a, C, rfl, T, n2, .inr ⟨dx, [(f1, u1)], upd_same, by rw [upd_ne d2, upd_same], by show 1 ≤ 900; omega, ?_⟩⟩
      exact h3 dx _ d1 d2 (by rw [upd_ne e2, upd_same]) upd_same fun b b1 b2 => by rw [upd_ne b2, upd_ne b1, upd_ne b2]
end
section
variable {K : PySem.W.Frag} {m : Option Addr} {E : Ef} {G0 G H : Hp} {e : Ev} {σ : St} {i : Nat}
theorem Rl.drop (R : Rl K m E G0 G e σ H) (i : Nat) : Rl K m E G0 G (e.set i none) (σ.set i none) H := by
  have keep : ∀ {j : Nat} {s : Sl}, (e.set i none)[j]? = some (some s) → e[j]? = some (some s) ∧ (σ.set i none)[j]? = σ[j]? := fun {j s} z => by
    have z2 := R.len
    rw [set_get] at z ⊢
    by_cases y : i = j ∧ j < e.length
    · rw [if_pos y] at z
      cases z
    · rw [if_neg y] at z
      exact ⟨z, if_neg (by omega)⟩
  refine ⟨R.gg, R.gh, R.eh, R.mh, R.nw, by rw [List.length_set, List.length_set]; exact R.len, ?_, ?_, ?_, ?_⟩
  · intro j d z
    rw [(keep z).2]
    exact R.im j d (keep z).1
  · intro j ds z
    rw [(keep z).2]
    exact R.ac j ds (keep z).1
  · intro j k dj dk q z1 z2 z3 z4
    rw [(keep z1).2] at z3
    rw [(keep z2).2] at z4
    exact R.inj j k dj dk q (keep z1).1 (keep z2).1 z3 z4
  · intro j s z
    rw [(keep z).2]
    exact R.ot j s (keep z).1
theorem Rz.drop (R : Rz K m E G0 G e σ H) (ok : okS [i] e = true) : Rz K m E G0 G (e.set i none) (σ.set i none) H := by
  refine ⟨R.r.drop i, fun p z => ?_⟩
  obtain ⟨z1, z2⟩ := R.z p z
  by_cases y : i = 0
  · subst y
    exact absurd (List.mem_singleton.mpr rfl) (okS_no ok z1)
  · rw [List.getElem?_set_ne y, List.getElem?_set_ne y]
    exact ⟨z1, z2⟩
end
def gone (i : Nat) (e : Ev) : Option Ev := if okS [i] e = true then some (e.set i none) else none
/-- behind a clause the name is gone -/
def goneF (i : Nat) : Fl → Option Fl
  | .nx e => (gone i e).map .nx
  | .bk e => (gone i e).map .bk
  | .ct e => (gone i e).map .ct
  | .rt (.im d) e => (gone i e).map (.rt (.im d))
  | .rt _ _ => none
abbrev Su := Str → Addr → Addr → Fs
/-- what a clause gives, wherever the exception stands -/
def caught (i : Nat) (g : Su) (x : Xc) (e : Ev) (fl : Fl) : Prop := ∀ (a dd : Addr) (fs : List (Str × V)), ∃ fl', g x.c a dd (e.set i (some (.ob (.xc a dd fs x.fs)))) = some fl' ∧ goneF i fl' = some fl
theorem caught_one {i : Nat} {g : Su} {x : Xc} {e : Ev} {fl fl2 : Fl} (h : caught i g x e fl) (h2 : caught i g x e fl2) : fl = fl2 := by
  obtain ⟨f1, a1, a2⟩ := h 0 0 []
  obtain ⟨f2, b1, b2⟩ := h2 0 0 []
  rw [a1] at b1
  cases b1
  rw [a2] at b2
  exact Option.some.inj b2
open Classical in
noncomputable def x_try (fb : Fsx) (sub : Str → Option Bool) (i : Nat) (g : Su) : Fsx := fun e => match fb e with
  | some (.inl fl) => some (.inl fl)
  | some (.inr (x, e1)) => (match sub x.c with
    | some true => if h : okS [i] e1 = true ∧ ∃ fl, caught i g x e1 fl then some (.inl (choose h.2)) else none
    | some false => some (.inr (x, e1))
    | none => none)
  | none => none
theorem x_try_no {fb : Fsx} {sub : Str → Option Bool} {i : Nat} {g : Su} {e : Ev} {fl : Fl} (h : fb e = some (.inl fl)) : x_try fb sub i g e = some (.inl fl) := by
  unfold x_try
  rw [h]
theorem x_try_yes {fb : Fsx} {sub : Str → Option Bool} {i : Nat} {g : Su} {e e1 : Ev} {x : Xc} {fl : Fl} (h : fb e = some (.inr (x, e1))) (hs : sub x.c = some true) (ok : okS [i] e1 = true) (c : caught i g x e1 fl) : x_try fb sub i g e = some (.inl fl) := by
  unfold x_try
  rw [h]
  dsimp only
  rw [hs]
  dsimp only
  rw [dif_pos ⟨ok, fl, c⟩]
  exact congrArg (fun z => some (Sum.inl z)) (caught_one (Classical.choose_spec (⟨fl, c⟩ : ∃ fl, caught i g x e1 fl)) c)
def SubT (K : PySem.W.Frag) (mg : Str → Option Value) (c : Value) (sub : Str → Option Bool) : Prop := ∀ x b, sub x = some b → ∀ C, mg x = some (.ref C) → PySem.W.exmOne K (.ref C) c = some b
def noW : WX := fun _ _ _ _ => False
/-- the clause's reading -/
def tsC (K : PySem.W.Frag) (mg : Str → Option Value) (g : Su) (a : Addr) (cls : Value) (d : Option Addr) : TS := fun D σ H => ∃ (c : Str) (C dd : Addr), mg c = some (.ref C) ∧ cls = .ref C ∧ d = some dd ∧ tsX K mg (xS (g c a dd)) noW D σ H
section
variable {X : Cx} {W : WX} {x n : Str} {c : Value} {i : Nat} {body suite : List Stmt} {b0 : Stmt} {np pos pos' : Pos} {fb : Fsx} {sub : Str → Option Bool} {g : Su}
theorem suite_read {a : Addr} {oe : Obj} {cls : Value} {d : Option Addr} {pn : List (Addr × Obj)} (hz : L2N.Zn cls d oe) (hv : ∃ vs, oe.data = .fields vs)
    (hsu : ∀ (k : Str) (C a dd : Addr) (oe : Obj) (pn : List (Addr × Obj)), X.mg k = some (.ref C) → L2N.Zn (.ref C) (some dd) oe → (∃ vs, oe.data = .fields vs) → SsD (X.suite a ((a, oe) :: pn)) (b0 :: suite) (g k a dd)) :
    PSs (X.suite a ((a, oe) :: pn)) (b0 :: suite) (tsC X.K X.mg g a cls d) := by
  refine ⟨fun pins s σ H D I ⟨k, C, dd, h1, h2, h3, h4⟩ => ?_⟩
  subst h2 h3
  exact ((hsu k C a dd oe pn h1 hz hv).x (W := noW)).run.run pins s σ H D I h4
theorem try_read {st : Stmt} (T : SubT X.K X.mg c sub) (h : PS X st (fun D σ H => tsX X.K X.mg fb (wAs X.K c i (tsC X.K X.mg g) W D) D σ H)) : SDX X W st (x_try fb sub i g) := by
  refine ⟨ps_imp h fun D σ H ⟨m, E, G0, G, e, o, R, q, P⟩ => ?_⟩
  unfold x_try at q
  split at q
  · rename_i fl h1
    cases q
    exact ⟨m, E, G0, G, e, _, R, h1, P⟩
  · rename_i y e1 h1
    refine ⟨m, E, G0, G, e, _, R, h1, ?_⟩
    intro cls d G' σ' H' s1 R1 A1
    obtain ⟨C, dd, fs, g1, g2, g3, g4, g5⟩ := A1
    subst g2 g3
    split at q
    · rename_i h2
      split at q
      · rename_i hh
        cases q
        have cc := Classical.choose_spec hh.2
        refine ⟨true, T _ _ h2 C g1, fun _ a na => ?_, fun z => by cases z⟩
        obtain ⟨fl', c1, c2⟩ := cc a dd fs
        have R2 : Rz X.K m E G0 G' (e1.set i (some (.ob (.xc a dd fs y.fs)))) (σ'.set i (some (.ref a))) H' := R1.setO ⟨rfl, g4, g5.1, g5.2⟩ hh.1
        refine ⟨y.c, C, dd, g1, rfl, rfl, m, E, G0, G', _, .inl fl', R2, (by show (g y.c a dd _).map Sum.inl = _; rw [c1]; rfl), ?_⟩
        have P2 := PoS.aft P s1
        generalize Classical.choose hh.2 = fl at c2 P2
        have drop : ∀ {e2 e3 : Ev}, gone i e2 = some e3 → okS [i] e2 = true ∧ e3 = e2.set i none := fun {e2 e3} z => by
          unfold gone at z
          by_cases k : okS [i] e2 = true
          · rw [if_pos k] at z
            exact ⟨k, (Option.some.inj z).symm⟩
          · rw [if_neg k] at z
            cases z
        match fl', c2 with
        | .nx e2, c2 =>
          cases h3 : gone i e2 with
          | none => rw [show goneF i (.nx e2) = (gone i e2).map .nx from rfl, h3] at c2; cases c2
          | some e3 =>
            rw [show goneF i (.nx e2) = (gone i e2).map .nx from rfl, h3] at c2
            cases c2
            obtain ⟨k1, rfl⟩ := drop h3
            exact fun G2 σ2 H2 s2 R3 => P2 G2 _ H2 s2 (R3.drop k1)
        | .bk e2, c2 =>
          cases h3 : gone i e2 with
          | none => rw [show goneF i (.bk e2) = (gone i e2).map .bk from rfl, h3] at c2; cases c2
          | some e3 =>
            rw [show goneF i (.bk e2) = (gone i e2).map .bk from rfl, h3] at c2
            cases c2
            obtain ⟨k1, rfl⟩ := drop h3
            exact fun G2 σ2 H2 s2 R3 => P2 G2 _ H2 s2 (R3.drop k1)
        | .ct e2, c2 =>
          cases h3 : gone i e2 with
          | none => rw [show goneF i (.ct e2) = (gone i e2).map .ct from rfl, h3] at c2; cases c2
          | some e3 =>
            rw [show goneF i (.ct e2) = (gone i e2).map .ct from rfl, h3] at c2
            cases c2
            obtain ⟨k1, rfl⟩ := drop h3
            exact fun G2 σ2 H2 s2 R3 => P2 G2 _ H2 s2 (R3.drop k1)
        | .rt (.im dv) e2, c2 =>
          cases h3 : gone i e2 with
          | none => rw [show goneF i (.rt (.im dv) e2) = (gone i e2).map (.rt (.im dv)) from rfl, h3] at c2; cases c2
          | some e3 =>
            rw [show goneF i (.rt (.im dv) e2) = (gone i e2).map (.rt (.im dv)) from rfl, h3] at c2
            cases c2
            obtain ⟨k1, rfl⟩ := drop h3
            exact fun v G2 σ2 H2 s2 R3 V => P2 v G2 _ H2 s2 (R3.drop k1) V
        | .rt (.ac dv) e2, c2 => cases c2
        | .rt (.br dv) e2, c2 => cases c2
      · cases q
    · rename_i h2
      cases q
      exact ⟨false, T _ _ h2 C g1, (fun z => by cases z), fun _ => P _ _ G' σ' H' s1 R1 ⟨C, dd, fs, g1, rfl, rfl, g4, g5⟩⟩
    · cases q
  · cases q
theorem sdx_try (hs : X.stack = X.env :: X.outer) (hf : X.env.frame = some X.env.locals) (hN : X.N.Nodup) (tk : L2N.Takes X W) (T : SubT X.K X.mg c sub) (hc : Names X x c)
    (hb : ∀ (W' : WX) (pn : List (Addr × Obj)) (xe : Value → Shared → Prop), L2N.Takes (X.tr pn xe) W' → PassesOwn (model X.prog X.w) X.A X.env xe → SsDX (X.tr pn xe) W' body fb)
    (hsu : ∀ (k : Str) (C a dd : Addr) (oe : Obj) (pn : List (Addr × Obj)), X.mg k = some (.ref C) → L2N.Zn (.ref C) (some dd) oe → (∃ vs, oe.data = .fields vs) → SsD (X.suite a ((a, oe) :: pn)) (b0 :: suite) (g k a dd))
    (hi : X.N[i]? = some n := by rfl) (hln : X.env.kindOf n = some .local := by rfl) :
    SDX X W (.Try body [.ExceptHandler (some (.Name x np)) (some n) (b0 :: suite) pos'] [] [] pos) (x_try fb sub i g) := by
  exact try_read T (L2N.ps_try_as (tb := fun W' => tsX X.K X.mg fb W') (ts := tsC X.K X.mg g) hs hf hN hi hln hc tk (fun W' pn xe t1 t2 => (hb W' pn xe t1 t2).run) fun a oe cls d pn hz hv => suite_read hz hv hsu)
end
def noX (f : Fsx) : Fs := fun e => match f e with
  | some (.inl fl) => some fl
  | _ => none
theorem sd_noX {X : Cx} {st : Stmt} {f : Fsx} (h : ∀ W, L2N.Takes X W → SDX X W st f) : SD X st (noX f) := by
  refine ⟨_, (h noW fun _ _ ⟨_, _, _, _, _, _, _, _, _, _, _, _, _, _, _, _, w⟩ => w.elim).run, fun m E G0 G e σ H fl D R q P => ?_⟩
  unfold noX at q
  split at q
  · rename_i fl' h1
    cases q
    exact ⟨m, E, G0, G, e, _, R, h1, P⟩
  · cases q
def x_fld (ok : Str → Bool) (k : Str) (a dd : Addr) (i : Nat) (f : Str) : Fe := fun e => if ok k = true then (match e[i]? with
  | some (some (.ob (.xc a' dd' _ ds))) => if a' = a ∧ dd' = dd then (ds.lookup f).map fun d => (.im d, e) else none
  | _ => none) else none
structure FldT (K : PySem.W.Frag) (mg : Str → Option Value) (f : Str) (ok : Str → Bool) : Prop where
  at_ : ∀ k, ok k = true → ∀ C, mg k = some (.ref C) → XfC K C ∧ PySem.W.findIn K (.ref C) f = some none
theorem look_fs {K : PySem.W.Frag} {G : Hp} {f : Str} {d : PyData} : ∀ {fs : List (Str × V)} {ds : List (Str × PyData)}, fs.map (·.1) = ds.map (·.1) → DpAll K G (fs.map (·.2)) (ds.map (·.2)) → ds.lookup f = some d → ∃ v, fs.lookup f = some v ∧ Dp K G v d
  | [], [], _, _, h => by cases h
  | [], _ :: _, h, _, _ => by cases h
  | _ :: _, [], h, _, _ => by cases h
  | (a, v) :: fs, (b, w) :: ds, h1, h2, h3 => by
    obtain ⟨ha, hr⟩ := List.cons.inj (show a :: fs.map (·.1) = b :: ds.map (·.1) from h1)
    subst ha
    rw [List.lookup_cons] at h3 ⊢
    cases h : (f == a) with
    | true =>
      rw [h] at h3
      cases h3
      exact ⟨v, rfl, by cases h2; assumption⟩
    | false =>
      rw [h] at h3
      exact look_fs hr (by cases h2; assumption) h3
section
variable {X : Cx} {a dd C : Addr} {oe : Obj} {pn : List (Addr × Obj)} {n f k : Str} {i : Nat} {pos np : Pos} {ok : Str → Bool}
theorem ed_fld (T : FldT X.K X.mg f ok) (hm : X.mg k = some (.ref C)) (hz : Zc (.ref C) (some dd) oe) (hf : ∃ vs, oe.data = .fields vs) (hN : X.N[i]? = some n := by rfl) (hv : Vis X.env.scope n := by first | exact Or.inl rfl | exact Or.inr (Or.inl rfl) | exact Or.inr (Or.inr rfl))
    (hd : (n == ("__debug__" : Str)) = false := by decide) (hcd : (n == ("__classdict__" : Str)) = false := by decide) (hb : attributeBase (.Name n np) f X.env (eval (.Name n np) X.env) = eval (.Name n np) X.env := by rfl) :
    ED (X.suite a ((a, oe) :: pn)) (.Attribute (.Name n np) f pos) (x_fld ok k a dd i f) := by
  by_cases hok : ok k = true
  · obtain ⟨t1, t2⟩ := T.at_ k hok C hm
    refine ⟨_, pe_xf (X := X) t1 t2 hz hf (pe_var (X := X.suite a ((a, oe) :: pn)) hN hv hd hcd) hb, fun m E G0 G e σ H r e' Q R q P => ?_⟩
    unfold x_fld at q
    rw [if_pos hok] at q
    split at q
    · rename_i a' dd' fs ds h1
      split at q
      · rename_i h2
        obtain ⟨rfl, rfl⟩ := h2
        cases h3 : ds.lookup f with
        | none => rw [h3] at q; cases q
        | some d =>
          rw [h3] at q
          cases q
          obtain ⟨o1, o2, o3, o4⟩ := R.ot i _ h1
          obtain ⟨v, l1, l2⟩ := look_fs o3 o4 h3
          exact ⟨.ref _, o1, rfl, rfl, _, fs, v, rfl, R.gh _ _ o2, l1, P v G H R Stp.refl l2 True.intro⟩
      · cases q
    · cases q
  · refine ⟨fun _ _ _ => False, ⟨fun _ _ _ _ _ _ z => z.elim⟩, fun m E G0 G e σ H r e' Q R q P => ?_⟩
    unfold x_fld at q
    rw [if_neg hok] at q
    cases q
end
end DL
namespace DL
open PySem PySem.Spec PyProof.Rows L2
structure KitOk (K : PySem.W.Frag) (D : Addr) : Prop where
  cl : (PySem.W.clsIn K D).isSome = true
  hg : PySem.W.findIn K (.ref D) "__getattribute__" = some (some (.builtin "BaseException.__getattribute__"))
  hk : PySem.W.findIn K (.ref D) "__getattr__" = some none
  hs : PySem.W.subIn K (.ref D) (.type "BaseException") = some true
  ha : PySem.W.findIn K (.ref D) "__class__" = some (some (.builtin "object.__class__"))
  hn : PySem.W.specialIn K (.builtin "object.__class__") "__get__" = some (some (.builtin "getset_descriptor.__get__"))
  ht : PySem.W.takesIn K (.builtin "object.__class__") = some true
  hm : PySem.W.mroIn K D (.type "object") = some true
end DL
namespace DL
open PySem PySem.Spec PyProof.Rows L2
abbrev XTab := List ((Str × Str) × Bool)
def tabF (tab : XTab) (y : Str) : Str → Option Bool := fun k => tab.lookup (k, y)
structure XcC (K : PySem.W.Frag) (C : Addr) : Prop where
  ox : OexC K C
  xf : XfC K C
  ki : KitOk K C
structure Xi (K : PySem.W.Frag) (mg : Str → Option Value) (cs ys fs : List Str) (tab : XTab) : Prop where
  cl : ∀ x, cs.contains x = true → ∃ C, mg x = some (.ref C) ∧ XcC K C ∧ ∀ f, fs.contains f = true → PySem.W.findIn K (.ref C) f = some none
  gl : ∀ y, ys.contains y = true → ∃ D, mg y = some (.ref D)
  rel : ∀ k y b, tab.lookup (k, y) = some b → cs.contains k = true ∧ ∀ C D, mg k = some (.ref C) → mg y = some (.ref D) → PySem.W.exmOne K (.ref C) (.ref D) = some b ∧ PySem.W.kitOne K (.ref C) (.ref D) = some b
section
variable {K : PySem.W.Frag} {mg : Str → Option Value} {cs ys fs : List Str} {tab : XTab}
theorem Xi.sub (T : Xi K mg cs ys fs tab) (y : Str) (h : ys.contains y = true := by decide +kernel) : ∃ D, mg y = some (.ref D) ∧ SubT K mg (.ref D) (tabF tab y) := by
  obtain ⟨D, hD⟩ := T.gl y h
  exact ⟨D, hD, fun k b z C hC => ((T.rel k y b z).2 C D hC hD).1⟩
theorem Xi.fld (T : Xi K mg cs ys fs tab) (f : Str) (h : fs.contains f = true := by decide +kernel) : FldT K mg f (fun k => cs.contains k) := by
  refine ⟨fun k z C hC => ?_⟩
  obtain ⟨C', h1, h2, h3⟩ := T.cl k z
  rw [hC] at h1
  cases h1
  exact ⟨h2.xf, h3 f h⟩
end
section
variable {X : Cx} {W : WX} {x n : Str} {i : Nat} {body suite : List Stmt} {b0 : Stmt} {np pos pos' : Pos} {fb : Fsx} {sub : Str → Option Bool} {g : Su}
theorem sdx_tryT (hs : X.stack = X.env :: X.outer) (hf : X.env.frame = some X.env.locals) (hN : X.N.Nodup) (tk : L2N.Takes X W) (T : ∃ D, X.mg x = some (.ref D) ∧ SubT X.K X.mg (.ref D) sub)
    (hb : ∀ (W' : WX) (pn : List (Addr × Obj)) (xe : Value → Shared → Prop), L2N.Takes (X.tr pn xe) W' → PassesOwn (model X.prog X.w) X.A X.env xe → SsDX (X.tr pn xe) W' body fb)
    (hsu : ∀ (k : Str) (C a dd : Addr) (oe : Obj) (pn : List (Addr × Obj)), X.mg k = some (.ref C) → L2N.Zn (.ref C) (some dd) oe → (∃ vs, oe.data = .fields vs) → SsD (X.suite a ((a, oe) :: pn)) (b0 :: suite) (g k a dd))
    (hi : X.N[i]? = some n := by rfl) (hln : X.env.kindOf n = some .local := by rfl) (hg : Gl X x := by rfl) (hdb : (x == ("__debug__" : Str)) = false := by decide) :
    SDX X W (.Try body [.ExceptHandler (some (.Name x np)) (some n) (b0 :: suite) pos'] [] [] pos) (x_try fb sub i g) := by
  obtain ⟨D, h1, h2⟩ := T
  exact sdx_try hs hf hN tk h2 ⟨hg, hdb, .inl h1⟩ hb hsu hi hln
theorem sd_tryT (hs : X.stack = X.env :: X.outer) (hf : X.env.frame = some X.env.locals) (hN : X.N.Nodup) (T : ∃ D, X.mg x = some (.ref D) ∧ SubT X.K X.mg (.ref D) sub)
    (hb : ∀ (W' : WX) (pn : List (Addr × Obj)) (xe : Value → Shared → Prop), L2N.Takes (X.tr pn xe) W' → PassesOwn (model X.prog X.w) X.A X.env xe → SsDX (X.tr pn xe) W' body fb)
    (hsu : ∀ (k : Str) (C a dd : Addr) (oe : Obj) (pn : List (Addr × Obj)), X.mg k = some (.ref C) → L2N.Zn (.ref C) (some dd) oe → (∃ vs, oe.data = .fields vs) → SsD (X.suite a ((a, oe) :: pn)) (b0 :: suite) (g k a dd))
    (hi : X.N[i]? = some n := by rfl) (hln : X.env.kindOf n = some .local := by rfl) (hg : Gl X x := by rfl) (hdb : (x == ("__debug__" : Str)) = false := by decide) :
    SD X (.Try body [.ExceptHandler (some (.Name x np)) (some n) (b0 :: suite) pos'] [] [] pos) (noX (x_try fb sub i g)) := sd_noX fun _ tk => sdx_tryT hs hf hN tk T hb hsu hi hln hg hdb
end
def oexB (K : PySem.W.Frag) (C : Addr) : Bool := match K.lookup C with
  | some ⟨.type "type", _, .cls cd, sl⟩ => (match cd.mro, sl.toList with
    | .ref C' :: bm, [_, _, _, _, some (.builtin n), _] => decide (C' = C) && (decide (n = "ValueError.__new__") && (cd.hasDict && (!cd.hasDel && PySem.HandSPX.refsVE bm)))
    | _, _ => false)
  | _ => false
theorem oexB_ok {K : PySem.W.Frag} {C : Addr} (h : oexB K C = true) : ∃ nm q N bs bm sn sub ab col dd k0 k1 k2 k3 k5, K.lookup C = some (excClassObj nm q C N bs bm true sn sub ab col dd k0 k1 k2 k3 k5 "ValueError.__new__") ∧ PySem.HandSPX.refsVE bm = true := by
  unfold oexB at h
  split at h
  · rename_i dd cd sl ho
    split at h
    · rename_i C' bm k0 k1 k2 k3 n k5 hm hs
      obtain ⟨h1, h⟩ := He.ba h
      obtain ⟨h2, h⟩ := He.ba h
      obtain ⟨h3, h⟩ := He.ba h
      obtain ⟨h4, h5⟩ := He.ba h
      have e1 := of_decide_eq_true h1
      have e2 := of_decide_eq_true h2
      subst e1 e2
      obtain ⟨nm, bs, mro, ns, qn, hd, sn, sub, ab, col, del⟩ := cd
      dsimp only at hm h3 h4
      subst hm h3
      have e4 : del = false := by simpa using h4
      subst e4
      obtain ⟨l⟩ := sl
      have e5 : l = [k0, k1, k2, k3, some (.builtin "ValueError.__new__"), k5] := hs
      subst e5
      exact ⟨nm, qn, ns, bs, bm, sn, sub, ab, col, dd, k0, k1, k2, k3, k5, ho, h5⟩
    · cases h
  · cases h
def xcB (K : PySem.W.Frag) (C : Addr) : Bool := oexB K C && (decide (PySem.W.findIn K (.ref C) "__setattr__" = some (some (.builtin "object.__setattr__"))) && (decide (PySem.W.subIn K (.ref C) (.type "BaseException") = some true) && (decide (PySem.W.typeIn K (.ref C) = some (.type "type")) && (PySem.W.keepIn K (.ref C) && (xfB K C &&
  ((PySem.W.clsIn K C).isSome && (decide (PySem.W.findIn K (.ref C) "__class__" = some (some (.builtin "object.__class__"))) && (decide (PySem.W.specialIn K (.builtin "object.__class__") "__get__" = some (some (.builtin "getset_descriptor.__get__"))) && (decide (PySem.W.takesIn K (.builtin "object.__class__") = some true) && decide (PySem.W.mroIn K C (.type "object") = some true))))))))))
theorem xcB_ok {K : PySem.W.Frag} {C : Addr} (h : xcB K C = true) : XcC K C := by
  obtain ⟨h1, h⟩ := He.ba h
  obtain ⟨h2, h⟩ := He.ba h
  obtain ⟨h3, h⟩ := He.ba h
  obtain ⟨h4, h⟩ := He.ba h
  obtain ⟨h5, h⟩ := He.ba h
  obtain ⟨h6, h⟩ := He.ba h
  obtain ⟨h7, h⟩ := He.ba h
  obtain ⟨h8, h⟩ := He.ba h
  obtain ⟨h9, h⟩ := He.ba h
  obtain ⟨h10, h11⟩ := He.ba h
  have x := xfB_ok h6
  exact ⟨⟨oexB_ok h1, of_decide_eq_true h2, of_decide_eq_true h3, of_decide_eq_true h4, h5⟩, x, ⟨h7, x.ga, x.gg, x.exC, of_decide_eq_true h8, of_decide_eq_true h9, of_decide_eq_true h10, of_decide_eq_true h11⟩⟩
/-- a class with its __init__ -/
def iniB (K : PySem.W.Frag) (x : Str) : Bool := decide (PySem.W.findIn K (.ref (He.ga K x)) "__init__" = some (some (.ref (He.ma K (He.ga K x) "__init__")))) && decide (PySem.W.typeIn K (.ref (He.ma K (He.ga K x) "__init__")) = some (.type "function"))
def exB (cs ys fs : List Str) (tab : XTab) (K : PySem.W.Frag) : Bool :=
  (cs.all fun x => (He.Fa.glo x).ok K && (xcB K (He.ga K x) && (iniB K x && fs.all fun f => decide (PySem.W.findIn K (.ref (He.ga K x)) f = some none)))) &&
    ((ys.all fun y => (He.Fa.glo y).ok K) && (tab.all fun t => cs.contains t.1.1 && (ys.contains t.1.2 && (decide (PySem.W.exmOne K (.ref (He.ga K t.1.1)) (.ref (He.ga K t.1.2)) = some t.2) && decide (PySem.W.kitOne K (.ref (He.ga K t.1.1)) (.ref (He.ga K t.1.2)) = some t.2)))))
section
variable {K : PySem.W.Frag} {h : Heap} {mg : Str → Option Value} {cs ys fs : List Str} {tab : XTab}
theorem look_mem {α β : Type} [BEq α] [LawfulBEq α] {a : α} {b : β} : ∀ {l : List (α × β)}, l.lookup a = some b → (a, b) ∈ l
  | [], h => by cases h
  | (c, d) :: l, h => by
    rw [List.lookup_cons] at h
    cases q : (a == c) with
    | true =>
      rw [q] at h
      cases h
      rw [eq_of_beq q]
      exact List.mem_cons_self
    | false =>
      rw [q] at h
      exact List.mem_cons_of_mem _ (look_mem h)
theorem exB_xi (X : K.In h) (G : h.Ns mainGlobals mg) (c : exB cs ys fs tab K = true) : Xi K mg cs ys fs tab := by
  obtain ⟨c1, c⟩ := He.ba c
  obtain ⟨c2, c3⟩ := He.ba c
  refine ⟨fun x hx => ?_, fun y hy => ?_, fun k y b z => ?_⟩
  · obtain ⟨h1, h2⟩ := He.ba (List.all_eq_true.mp c1 x (List.contains_iff_mem.mp hx))
    obtain ⟨h2, h3⟩ := He.ba h2
    obtain ⟨h3, h4⟩ := He.ba h3
    exact ⟨_, He.glo_ok X G h1, xcB_ok h2, fun f hf => of_decide_eq_true (List.all_eq_true.mp h4 f (List.contains_iff_mem.mp hf))⟩
  · exact ⟨_, He.glo_ok X G (List.all_eq_true.mp c2 y (List.contains_iff_mem.mp hy))⟩
  · obtain ⟨h1, h2⟩ := He.ba (List.all_eq_true.mp c3 ((k, y), b) (look_mem z))
    obtain ⟨h2, h3⟩ := He.ba h2
    obtain ⟨h3, h4⟩ := He.ba h3
    refine ⟨h1, fun C D hC hD => ?_⟩
    have g1 := He.glo_ok X G (He.ba (List.all_eq_true.mp c1 k (List.contains_iff_mem.mp h1))).1
    have g2 := He.glo_ok X G (List.all_eq_true.mp c2 y (List.contains_iff_mem.mp h2))
    rw [hC] at g1
    rw [hD] at g2
    cases g1
    cases g2
    exact ⟨of_decide_eq_true h3, of_decide_eq_true h4⟩
theorem exB_ini {P : Program} {w : World} {base : Heap} (X : K.In h) (G : h.Ns mainGlobals mg) (c : exB cs ys fs tab K = true) {x : Str} {ns ps : List Str} {fd : FuncData} (hx : cs.contains x = true)
    (F1 : ∀ C, mg x = some (.ref C) → XcC K C → (∀ f, fs.contains f = true → PySem.W.findIn K (.ref C) f = some none) → FnOk P w K mg base CX0 1 (He.fAd K (x, some "__init__")) fd ps (spI C ns)) (hb : Binds K fd ps []) : ExT P w K mg base x ns := by
  obtain ⟨c1, _⟩ := He.ba c
  obtain ⟨h1, h2⟩ := He.ba (List.all_eq_true.mp c1 x (List.contains_iff_mem.mp hx))
  obtain ⟨h2, h3⟩ := He.ba h2
  obtain ⟨h3, h4⟩ := He.ba h3
  obtain ⟨h5, h6⟩ := He.ba h3
  have g1 := He.glo_ok X G h1
  have x1 := xcB_ok h2
  exact ⟨_, _, fd, ps, g1, x1.ox, of_decide_eq_true h5, of_decide_eq_true h6, F1 _ g1 x1 fun f hf => of_decide_eq_true (List.all_eq_true.mp h4 f (List.contains_iff_mem.mp hf)), hb⟩
end
def obsX (fa : List He.Fa) (fn : List He.DefD) (ex : PySem.W.Frag → Bool) (K : PySem.W.Frag) : He.AlD × Bool := (He.obsD fa fn K, ex K)
def obsXG (n : Nat) (fa : List He.Fa) (fn : List He.DefD) (ex : PySem.W.Frag → Bool) (g : Addr → Option Obj) : He.AlD × Bool := obsX fa fn ex (He.frG g (He.asD g n))
def SaysX (fa : List He.Fa) (fn : List He.DefD) (ex : PySem.W.Frag → Bool) (K : PySem.W.Frag) : Prop := obsX fa fn ex K = (He.valD fn, true)
def hookX (n : Nat) (fa : List He.Fa) (fn : List He.DefD) (ex : PySem.W.Frag → Bool) : PySem.W.Hook where
  α := He.AlD × Bool
  obs := fun s => obsXG n fa fn ex s.heap.get?
  val := fun _ => (He.valD fn, true)
  says := fun _ h => ∃ K : PySem.W.Frag, K.In h ∧ SaysX fa fn ex K
  of := fun _ _ e => ⟨_, He.frG_in, e⟩
  keeps := fun _ _ _ ⟨K, hK, c⟩ k => ⟨K, PySem.W.Frag.In.keeps hK k, c⟩
theorem obsXG_eq {n : Nat} {fa : List He.Fa} {fn : List He.DefD} {ex : PySem.W.Frag → Bool} {g : Addr → Option Obj} {s : Shared} (h : ∀ a, g a = s.heap.get? a) : obsXG n fa fn ex g = (hookX n fa fn ex).obs s := by
  have e : g = s.heap.get? := funext h
  subst e
  rfl
theorem SaysX.d {fa : List He.Fa} {fn : List He.DefD} {ex : PySem.W.Frag → Bool} {K : PySem.W.Frag} (c : SaysX fa fn ex K) : He.SaysD fa fn K := congrArg Prod.fst c
theorem SaysX.x {fa : List He.Fa} {fn : List He.DefD} {ex : PySem.W.Frag → Bool} {K : PySem.W.Frag} (c : SaysX fa fn ex K) : ex K = true := congrArg Prod.snd c
end DL
namespace DL
open PySem PySem.Spec PyProof.Rows L2
/-- a class's j-th statement -/
def inCls (s : Stmt) (j : Nat) : Stmt := match s with
  | .ClassDef _ _ _ b _ _ _ _ _ _ _ => b.getD j (.Pass ⟨0, 0, 0, 0⟩)
  | _ => .Pass ⟨0, 0, 0, 0⟩
section
variable {X : Cx} {W : WX} {st : Stmt} {f : Fsx}
def x_fz (j : Nat) (f : Fsx) : Fsx := fun e => f (fzE j e)
theorem SDX.fz (j : Nat) (h : SDX X W st f) (hj : j ≠ 0 := by decide) : SDX X W st (x_fz j f) := by
  refine ⟨ps_imp h.run fun D σ H ⟨m, E, G0, G, e, o, R, q, P⟩ => ?_⟩
  obtain ⟨G', s, R'⟩ := R.fz hj
  exact ⟨m, E, G0, G', _, o, R', q, P.aft s⟩
end
section
variable {P : Program} {w : World} {K : PySem.W.Frag} {mg : Str → Option Value} {base : Heap} {x qual : Str} {params : Arguments} {body : List Stmt} {scope : Scope} {dvs dvs' : List V} {kws : List (Str × V)} {f : Addr} {fd : FuncData} {k : Nat} {sp : Sp} {ps : List Str}
theorem kfX (F : FunD K x qual params body scope dvs kws f fd) (ok : FnOk P w K mg base (L2N.CX P w) k f fd ps sp) (g : mg x = some (.ref f)) (b : ∃ ds, Vals dvs' ds ∧ Binds K fd ps ds) : KfX P w K mg base k x sp dvs' := by
  obtain ⟨ds, h1, h2⟩ := b
  exact ⟨f, fd, ps, ds, ok, g, F.kp, h2, h1⟩
theorem kfXN (F : FunD K x qual params body scope [] kws f fd) (ok : FnOk P w K mg base (L2N.CX P w) k f fd ps sp) (g : mg x = some (.ref f))
    (h : ∀ (kV doc pm : Value) (an : Option Addr) (cdv ct : Value) (us : List Value), us.length = ps.length → bindArgs (PySem.W.fnOf x qual params body scope .none kV doc pm an cdv ct) ⟨us, []⟩ = pure (ps.zip us)) : KfX P w K mg base k x sp [] :=
  kfX F ok g ⟨[], .nil, F.bindsN h⟩
end
end DL
namespace DL
open PySem PySem.Spec PyProof.Rows L2
def blB (l : List (Str × String)) (K : PySem.W.Frag) : Bool := l.all fun p => decide (PySem.W.nsIn K mainGlobals p.1 = some (some (.builtin p.2)))
end DL
namespace DL
open L2 PySem PySem.Spec PySem.W PyProof.Rows
def bD : Option Rs → Option Bool
  | some (.im (.bool b)) => some b
  | _ => none
def iD : Option Rs → Option Int
  | some (.im (.int i)) => some i
  | _ => none
def vD : Option Rs → Option PyData
  | some (.im d) => some d
  | _ => none
theorem bD_ok {o : Option Rs} {b : Bool} (h : bD o = some b) : o = some (.im (.bool b)) := by
  unfold bD at h
  split at h
  · cases h
    rfl
  · cases h
theorem iD_ok {o : Option Rs} {i : Int} (h : iD o = some i) : o = some (.im (.int i)) := by
  unfold iD at h
  split at h
  · cases h
    rfl
  · cases h
theorem vD_ok {o : Option Rs} {d : PyData} (h : vD o = some d) : o = some (.im d) := by
  unfold vD at h
  split at h
  · cases h
    rfl
  · cases h
/-- what a walk over it gives -/
def wkD : PyData → Option (List PyData)
  | .list ds => some ds
  | .tuple ds => some ds
  | _ => none
section
variable {x y z : Fe} {c d : Ft} {e e1 e2 e3 : Ev} {r r1 r2 r3 : Rs} {a b : PyData} {ds : List PyData} {fa fb : Fa}
theorem wkX (h : x e = some (.im a, e1)) (k : wkD a = some ds) : i_seq x e = some (ds.map idD, e1) := by
  rw [show ds.map idD = ds from List.map_id' ds]
  cases a with
  | list l =>
    cases k
    rw [r_i_seq, h]
    rfl
  | tuple l =>
    cases k
    rw [r_i_seq, h]
    rfl
  | _ => cases k
end
theorem bD_gt (i j : Int) : bD (q_gt (.int i) (.int j)) = some (decide (j < i)) := by rw [e_qgt]; rfl
theorem bD_ge (i j : Int) : bD (q_ge (.int i) (.int j)) = some (decide (j ≤ i)) := by rw [e_qge]; rfl
theorem bD_eq {α : Type} [DecidableEq α] {f : α → PyData} [E : EqE f] (h : E.d ≤ 64) (a b : α) : bD (p_eq (f a) (f b)) = some (decide (a = b)) := by rw [o_eq h]; rfl
end DL
namespace DL
open L2 PySem PySem.Spec PySem.W PyProof.Rows
end DL
namespace DL
open PySem PySem.Spec PySem.W PyProof.Rows L2 Calls SeqAt
end DL
namespace DL
open L2 PySem PySem.Spec PySem.W PyProof.Rows
abbrev p1 {α : Type} (f : α → PyData) (x : α) : PyData := .tuple [f x]
instance {α : Type} {f : α → PyData} : Nn (p1 f) := ⟨fun _ => ⟨rfl, rfl⟩⟩
instance {α : Type} [DecidableEq α] {f : α → PyData} [E : EqE f] : EqE (p1 f) := ⟨E.d + 1, fun a => by simp [PyData.canLay0, PyData.canLayAll0, E.can], fun a => by
    rw [PyData.depth, PyData.depthAll, PyData.depthAll]
    have := E.dep a
    omega, fun a b => by
    rw [PyData.eqv, PyData.eqvAll, PyData.eqvAll, E.eqv]
    exact Bool.and_true _⟩
end DL
namespace DL
open L2 PySem PySem.Spec PySem.W PyProof.Rows
def valD (kvs : List (Key × PyData)) (k : Key) : Option PyData := (kvs.find? fun kv => decide (kv.1 = k)).map (·.2)
section
variable {K : PySem.W.Frag} {G : Hp} {v : V} {d : PyData} {k : Key}
theorem Dkv.same {G' : Hp} {ws : List (Key × V)} {kvs : List (Key × PyData)} (q : Dkv K G ws kvs) (s : Same G G') : Dkv K G' ws kvs := ⟨q.1, dpAll_same s q.2⟩
end
end DL
namespace DL
open L2 PySem PySem.Spec PySem.W PyProof.Rows
end DL
namespace DL
open L2 PySem PySem.Spec PySem.W PyProof.Rows
section
variable {α β γ δ ε ζ : Type}
abbrev q2 (f : α → PyData) (g : β → PyData) (x : α × β) : List PyData := [f x.1, g x.2]
abbrev q3 (f : α → PyData) (g : β → PyData) (h : γ → PyData) (x : α × β × γ) : List PyData := [f x.1, g x.2.1, h x.2.2]
abbrev q4 (f : α → PyData) (g : β → PyData) (h : γ → PyData) (k : δ → PyData) (x : α × β × γ × δ) : List PyData := [f x.1, g x.2.1, h x.2.2.1, k x.2.2.2]
abbrev q5 (f : α → PyData) (g : β → PyData) (h : γ → PyData) (k : δ → PyData) (l : ε → PyData) (x : α × β × γ × δ × ε) : List PyData := [f x.1, g x.2.1, h x.2.2.1, k x.2.2.2.1, l x.2.2.2.2]
end
section
variable {ρ S : Type} {n nl : Nat} {g : Fs} {ds : List PyData} {i : Nat} {x y : Fe} {e e1 e2 : Ev} {Q : Fl → Prop}
theorem t_putR {c c' : List PyData} {d : PyData} {k : Int} {j : Nat} (h : ∃ r, x e = some (r, e1) ∧ imR (frzR r) = some d) (h0 : isAc e1[i]? = true) (hk : y e1 = some (.im (.int k), e2)) (hi : e2[i]? = some (some (.ac c))) (hj : ixN c.length k = some j) (hc : c.set j d = c') (q : Q (.nx (e2.set i (some (.ac c'))))) : wS (s_put i x y) e Q := by
  obtain ⟨r, h, hr⟩ := h
  subst hc
  refine ⟨_, ?_, q⟩
  rw [r_s_put, h]
  simp only [h0, hr, hk, hi, if_true]
  rw [hj]
def rtAS (es : S → List PyData) (r : S) (r' : Rs) (e : Ev) : Prop := finR r' e = some (.ac (es r))
theorem t_fnAS {es : S → List PyData} {r : S} (hl : ds.length = n) (h : wS g (env0 ds nl) (RK (rtAS es) r)) : runF n nl g ds = some (.ac (es r)) := by
  obtain ⟨fl, h1, h2⟩ := h
  unfold runF
  rw [if_pos hl, h1]
  cases fl with
  | nx e => exact h2
  | bk e => exact h2.elim
  | ct e => exact h2.elim
  | rt r e => exact h2
def rtMS (enc : ρ → PyData) (es : S → List PyData) (r : ρ × S) (r' : Rs) (e : Ev) : Prop := r' = .im (enc r.1) ∧ ownC e r' = some (r', es r.2)
theorem t_fnMS {enc : ρ → PyData} {es : S → List PyData} {c : List PyData} {r : ρ × S} (hl : ds.length = n) (h : wS g (envM c ds nl) (RK (rtMS enc es) r)) : runM n nl g c ds = some (.im (enc r.1), es r.2) := by
  obtain ⟨fl, h1, h2⟩ := h
  unfold runM
  rw [if_pos hl, h1]
  cases fl with
  | nx e =>
    obtain ⟨h3, h4⟩ := h2
    rw [← h3]
    exact h4
  | bk e => exact h2.elim
  | ct e => exact h2.elim
  | rt r e =>
    obtain ⟨h3, h4⟩ := h2
    subst h3
    exact h4
end
end DL
namespace DL
open L2 PySem PySem.Spec PySem.W PyProof.Rows
end DL
namespace DL
open L2 PySem PySem.Spec PySem.W PyProof.Rows
end DL
namespace DL
open L2 PySem PySem.Spec PySem.W PyProof.Rows
theorem _root_.L2H.RoomH.units {k : Nat} {A : Around} (r : L2H.RoomH k A) : A.units + 64 < cLine := by
  have := r.un
  omega
end DL
namespace DL
open L2 PySem PySem.Spec PySem.W PyProof.Rows
end DL
namespace DL
open PySem PySem.Spec PySem.W PyProof.Rows L2
end DL
namespace DL
open PySem PySem.Spec PySem.W PyProof.Rows L2
def orRx (φ : List PyData → Option Rs) (ψ : List PyData → Option Ro) : List PyData → Option Ro := fun ds => match φ ds with
  | some r => some (.inl r)
  | none => ψ ds
theorem orRx_len {φ : List PyData → Option Rs} {ψ : List PyData → Option Ro} {n : Nat} (h : ∀ ds, (φ ds).isSome = true → ds.length = n) (k : ∀ ds, (ψ ds).isSome = true → ds.length = n) : ∀ ds, (orRx φ ψ ds).isSome = true → ds.length = n := fun ds q => by
  unfold orRx at q
  cases e : φ ds with
  | some r => exact h ds (by rw [e]; rfl)
  | none =>
    rw [e] at q
    exact k ds q
theorem orRx_of {φ : List PyData → Option Rs} {ψ : List PyData → Option Ro} {ds : List PyData} {r : Rs} (h : φ ds = some r) : orRx φ ψ ds = some (.inl r) := by
  unfold orRx
  rw [h]
theorem fn_orX {P : Program} {w : World} {K : PySem.W.Frag} {mg : Str → Option Value} {base : Heap} {k n : Nat} {f : Addr} {fd : FuncData} {ps : List Str} {φ : List PyData → Option Rs} {ψ : List PyData → Option Ro}
    (F : FnOk P w K mg base CX0 k f fd ps (spD K n φ)) (Y : FnOk P w K mg base (L2N.CX P w) k f fd ps (spX K mg n ψ)) : FnOk P w K mg base (L2N.CX P w) k f fd ps (spX K mg n (orRx φ ψ)) := by
  have two : ∀ {vs : List V} {H : Hp} {Q : VK} {E : XK}, spX K mg n (orRx φ ψ) vs H Q E → spD K n φ vs H Q E ∨ spX K mg n ψ vs H Q E := fun {vs H Q E} z => by
    obtain ⟨G, ds, o, a1, a2, a3, a4, a5, a6⟩ := z
    unfold orRx at a4
    cases e : φ ds with
    | some r =>
      rw [e] at a4
      cases a4
      exact .inl ⟨G, ds, r, a1, a2, a3, e, a5 r rfl⟩
    | none =>
      rw [e] at a4
      exact .inr ⟨G, ds, o, a1, a2, a3, a4, a5, a6⟩
  refine ⟨fun vs H Q E z => ?_, fun A outer s H args us vs Q E r e0 b v z => ?_⟩
  · rcases two z with z | z
    · exact F.len _ _ _ _ z
    · exact Y.len _ _ _ _ z
  · rcases two z with z | z
    · refine codeAny_mono (F.run A outer s H args us vs Q E r e0 b v z) fun q s' y => ?_
      match q, y with
      | .ok (.ret u), y => exact y
      | .error e, y => exact False.elim y
    · exact Y.run A outer s H args us vs Q E r e0 b v z
abbrev Fax := Ev → Option (Ex (List Rs × Ev))
def PoA (K : PySem.W.Frag) (mg : Str → Option Value) (m : Option Addr) (E : Ef) (G0 : Hp) (σ : St) (G H : Hp) (e : Ev) (W : WX) (Q : List V → Hp → Prop) : Ex (List Rs × Ev) → Prop
  | .inl (rs, e') => ∀ vs G' H', Rl K m E G0 G' e' σ H' → Stp σ G H e G' H' e' → VrAll K E G' H' σ e' vs rs → Q vs H'
  | .inr (x, e') => ∀ cls d G' H', Rl K m E G0 G' e' σ H' → Stp σ G H e G' H' e' → XcAt K mg G' cls d x → W cls d σ H'
def taX (K : PySem.W.Frag) (mg : Str → Option Value) (f : Fax) (W : WX) : TA := fun σ H Q => ∃ m E G0 G e o, Rl K m E G0 G e σ H ∧ f e = some o ∧ PoA K mg m E G0 σ G H e W Q o
structure ADX (X : Cx) (W : WX) (xs : List Expr) (f : Fax) : Prop where
  run : PA X xs (taX X.K X.mg f W)
theorem pa_imp {X : Cx} {xs : List Expr} {t u : TA} (h : PA X xs t) (k : ∀ σ H Q, u σ H Q → t σ H Q) : PA X xs u := ⟨fun pos pins s σ H Q I q => h.run pos pins s σ H Q I (k σ H Q q)⟩
section
variable {X : Cx} {W : WX} {a : Expr} {es : List Expr} {fx : Fex} {fa : Fa} {fr : Fax} {pos : Pos}
def xA (f : Fa) : Fax := fun e => (f e).map .inl
theorem AD.x (h : AD X es fa) : ADX X W es (xA fa) := by
  obtain ⟨t, p, k⟩ := h
  refine ⟨pa_imp p fun σ H Q ⟨m, E, G0, G, e, o, R, q, P⟩ => ?_⟩
  unfold xA at q
  cases h1 : fa e with
  | none => rw [h1] at q; cases q
  | some z =>
    obtain ⟨rs, e'⟩ := z
    rw [h1] at q
    cases q
    exact k m E G0 G e σ H rs e' Q R h1 P
def ax_cons (fx : Fex) (fr : Fax) : Fax := fun e => match fx e with
  | some (.inl (r, e1)) => (match fr e1 with
    | some (.inl (rs, e2)) => some (.inl (frzR r :: rs, e2))
    | some (.inr y) => some (.inr y)
    | none => none)
  | some (.inr y) => some (.inr y)
  | none => none
theorem adx_cons (ha : EDX X W a fx) (hr : ADX X W es fr) (hs : starEach (a :: es) X.env = (false, eval a X.env) :: starEach es X.env := by rfl) : ADX X W (a :: es) (ax_cons fx fr) := by
  refine ⟨pa_imp (pa_cons ha.run hr.run hs) fun σ H Q ⟨m, E, G0, G, e, o, R, q, P⟩ => ?_⟩
  unfold ax_cons at q
  show teX X.K X.mg fx W σ H fun x H1 => taX X.K X.mg fr W σ H1 fun xs H2 => Q (x :: xs) H2
  split at q
  · rename_i r e1 h1
    refine ⟨m, E, G0, G, e, _, R, h1, fun v G1 H1 R1 S1 V1 N1 => ?_⟩
    obtain ⟨G1', R1', S1', s1, V1'⟩ := R1.freeze S1 V1 N1
    split at q
    · rename_i rs e2 h2
      cases q
      exact ⟨m, E, G0, G1', e1, _, R1', h2, fun vs G2 H2 R2 S2 V2 => P (v :: vs) G2 H2 R2 (S1'.trans S2) ⟨V1'.stp S2, V2⟩⟩
    · rename_i y h2
      cases q
      obtain ⟨x, e2⟩ := y
      exact ⟨m, E, G0, G1', e1, _, R1', h2, fun cls d G2 H2 R2 S2 X2 => P cls d G2 H2 R2 (S1'.trans S2) X2⟩
    · cases q
  · rename_i y h1
    cases q
    obtain ⟨x, e1⟩ := y
    exact ⟨m, E, G0, G, e, _, R, h1, P⟩
  · cases q
def x_tupX (f : Fax) : Fex := fun e => match f e with
  | some (.inl (rs, e1)) => (match imAll rs with
    | some ds => if okLen ds.length = true then some (.inl (.im (.tuple ds), e1)) else none
    | none => none)
  | some (.inr y) => some (.inr y)
  | none => none
theorem edx_tup {n} (h : ADX X W es fr) : EDX X W (.Tuple es n pos) (x_tupX fr) := by
  refine ⟨pe_imp (pe_tup h.run) fun σ H Q ⟨m, E, G0, G, e, o, R, q, P⟩ => ?_⟩
  unfold x_tupX at q
  split at q
  · rename_i rs e1 h1
    refine ⟨m, E, G0, G, e, _, R, h1, fun vs G1 H1 R1 S1 V1 => ?_⟩
    cases h2 : imAll rs with
    | none => rw [h2] at q; cases q
    | some ds =>
      rw [h2] at q
      dsimp only at q
      by_cases z : okLen ds.length = true
      · rw [if_pos z] at q
        cases q
        have dv := vr_imAll V1 h2
        refine ⟨by rw [dpAll_len dv]; exact okLen_ok z, fun p hp => ?_⟩
        obtain ⟨R', S', D'⟩ := R1.newT hp dv
        exact P _ _ _ R' (S1.trans S') D' True.intro
      · rw [if_neg z] at q
        cases q
  · rename_i y h1
    cases q
    obtain ⟨x, e1⟩ := y
    exact ⟨m, E, G0, G, e, _, R, h1, P⟩
  · cases q
end
end DL
namespace DL
open L2 PySem PySem.Spec PySem.W PyProof.Rows
end DL
namespace DL
open PySem PySem.Spec PySem.W PyProof.Rows L2
end DL
namespace DL
open PySem PySem.Spec PySem.W PyProof.Rows L2
section
variable {α : Type} {f : α → PyData} {l : List α} {x : Fe} {e e1 : Ev}
theorem map_any : (l.map f).map idD = l.map f := by
  rw [List.map_map]
  rfl
theorem imAnyT (h : x e = some (.im (tp f l), e1)) : x e = some (.im (tp idD (l.map f)), e1) := by
  show x e = some (.im (.tuple ((l.map f).map idD)), e1)
  rw [map_any]
  exact h
end
end DL
namespace DL
open PySem PySem.Spec PySem.W PyProof.Rows L2
def x_pop0 (i : Nat) : Fe := fun e => match e[i]? with
  | some (some (.ac ds)) => (match ds[ds.length - 1]? with
    | some d => some (.im d, e.set i (some (.ac ds.dropLast)))
    | none => none)
  | _ => none
section
variable {K : PySem.W.Frag} {G : Hp}
theorem dpAll_front {vs : List V} {ds : List PyData} (h : DpAll K G vs ds) : DpAll K G vs.dropLast ds.dropLast := by
  rw [List.dropLast_eq_take, List.dropLast_eq_take, dpAll_len h]
  exact dpAll_take _ h
end
section
variable {X : Cx} {pos : Pos} {a : Expr} {fa : Fe}
theorem ed_pop0 (i : Nat) {x : Str} {np apos : Pos} (hN : X.N[i]? = some x := by rfl)
    (hv : Vis X.env.scope x := by first | exact Or.inl rfl | exact Or.inr (Or.inl rfl) | exact Or.inr (Or.inr rfl)) (hd : (x == ("__debug__" : Str)) = false := by decide) (hcd : (x == ("__classdict__" : Str)) = false := by decide)
    (hbase : attributeBase (.Name x np) "pop" X.env (eval (.Name x np) X.env) = eval (.Name x np) X.env := by rfl) (hline : (apos.endLine == pos.line) = true := by rfl) :
    ED X (.Call (.Attribute (.Name x np) "pop" apos) [] [] pos) (x_pop0 i) := by
  refine ⟨_, pe_bm0 PySem.F.plainAttrs_list PySem.F.slot_list_pop PySem.F.type_list_pop mt_pop (pe_var hN hv hd hcd) hbase hline, fun m E G0 G e σ H r e' Q R q P => ?_⟩
  unfold x_pop0 at q
  split at q
  · rename_i ds h3
    split at q
    · rename_i d h4
      cases q
      obtain ⟨l, ws, q1, q2, q3, q4, q5⟩ := R.ac i ds h3
      obtain ⟨y, y1, y2⟩ := dpAll_get q4 h4
      obtain ⟨R3, S3⟩ := R.put h3 q1 (dpAll_front q4)
      refine ⟨.ref l, q1, .inl ⟨rfl, ws, .inl (.inl q3)⟩, l, ws, y, rfl, rfl, q3, by rw [dpAll_len q4]; exact y1, ?_⟩
      exact P y G _ R3 S3 y2 True.intro
    · cases q
  · cases q
end
end DL
namespace DL
open PySem PySem.Spec PyProof.Rows L2
theorem callTypeKw {M : Model} {A : Around} {E : Value → Shared → Prop} {s : Shared} {env : Env} {pos : Pos} {T : String} {e : Expr} {rest : List Expr} {kws : List Keyword} {Q : Value → Shared → Prop}
    (h : wpAny M A (spliced (backTo pos (starEach (e :: rest) env))) (fun vs s₁ => wpAny M A (evalAll ((backToKw pos (keywordEach kws env)).map (·.2)))
      (fun kvs s₂ => wpAny M A (call (.type T) vs (((backToKw pos (keywordEach kws env)).filterMap (·.1)).zip kvs)) Q E s₂) E s₁) E s)
    (he : backTo pos (starEach (e :: rest) env) = (false, eval e env) :: backTo pos (starEach rest env))
    (hplain : (backTo pos (starEach (e :: rest) env)).any (·.1) = false)
    (hall : (backToKw pos (keywordEach kws env)).all (·.1.isSome) = true)
    (hkw : (backToKw pos (keywordEach kws env)).any (·.1.isNone) = false) :
    wpAny M A (callWith pos (.type T) [] (backTo pos (starEach (e :: rest) env)) (backToKw pos (keywordEach kws env))) Q E s := by
  have g : wpAny M A (evalArgs (.type T) true (backTo pos (starEach (e :: rest) env)) (backToKw pos (keywordEach kws env))) (fun a s₁ => wpAny M A (call (.type T) ([] ++ a.pos) a.kw) Q E s₁) E s := by
    rw [he] at h ⊢
    exact evalArgs_kwB hall h
  unfold callWith
  refine wpAny_bind (wpAny_holding (wpAny_mono g (fun a s₁ z => wpAny_bind (wpAny_standAt ?_)) fun _ _ x => x))
  simp only [hplain, hkw, Bool.or_false]
  refine wpAny_bind (wpAny_pure ?_)
  exact wpAny_bind (wpAny_mono z (fun r s₂ y => wpAny_bind (wpAny_holding (wpAny_point (wpAny_pure y)))) fun _ _ x => x)
/-- the tuple at a, each item in a new pair, counted from 1 -/
def ItF (K : PySem.W.Frag) (a : Addr) : It where
  go := fun i H => ∃ xs x, SqT K H a xs ∧ xs[i]? = some x
  yld := fun i H v H' => ∃ T x, v = .ref T ∧ H T = none ∧ H' = upd H T (.tup [.int ((i + 1 : Nat) : Int), x]) ∧ ∀ xs, SqT K H a xs → xs[i]? = some x
  stop := fun i H => ∃ xs : List V, SqT K H a xs ∧ xs.length = i
theorem turn_enumF {P : Program} {w : World} {K : PySem.W.Frag} {elts : List Expr} {kk : Nat} {tpos : Pos} (a e it : Addr) :
    Turn P w K (.Tuple elts kk tpos) (ItF K a) [e, it] e fun i h => (∃ old, IsEnum h e it ((i + 1 : Nat) : Int) old) ∧ h.IsTupleIter it a i ∧ e ≠ it ∧ a ≠ it ∧ a ≠ e where
  mem := List.mem_cons_self
  obj := fun i h ⟨⟨old, z1⟩, ⟨o, z2, z3, z4⟩, _⟩ b hb => by
    rcases List.mem_cons.mp hb with y | y
    · subst y
      exact ⟨_, z1, fun v q => nomatch q⟩
    · rw [List.mem_singleton.mp y]
      exact ⟨o, z2, fun v q => by rw [z4] at q; cases q⟩
  keep := fun i h h' ⟨⟨old, z1⟩, z2, z3⟩ k => ⟨⟨old, k e List.mem_cons_self _ z1⟩, z2.at fun o q => k it (List.mem_cons_of_mem _ List.mem_cons_self) o q, z3⟩
  item := by
    intro X e1 e2 e3 hc i pins s σ H E I hf ⟨⟨old, z1⟩, z2, z3, z4, z5⟩ ⟨xs, x, hq, hx⟩
    subst e1 e2 e3
    obtain ⟨its, rv, tp, hz⟩ := I.tuple hq
    obtain ⟨u, hu, ru⟩ := rv.get hx
    have li : i < its.toArray.size := by
      rw [List.size_toArray]
      exact (List.getElem?_eq_some_iff.mp hu).1
    have le : e < s.heap.objs.size := Heap.lt_size z1
    have lt : it < s.heap.objs.size := by
      obtain ⟨_, q, _⟩ := z2
      exact Heap.lt_size q
    have D := Draws.tuple (prog := X.prog) (w := X.w) (A := X.A.in1) (by exact I.ok.hd hc) it a z4 its.toArray
    refine wpAny_pyNext_enum_itemC D z1 ⟨z2, tp⟩ li z3 (by
      intro m
      rcases List.mem_cons.mp m with y | y
      · exact z3 y
      · exact z5 (List.mem_singleton.mp y).symm) fun u2 g tk hu2 eo st gT gs gk => ?_
    have eu : u2 = u := by
      have y : its.toArray[i]? = some u2 := hu2
      rw [List.getElem?_toArray, hu] at y
      exact (Option.some.inj y).symm
    subst eu
    refine ⟨_, rfl, wpAny_letOwnedTupleGo_enum (s := { s with heap := g, toks := tk + 1 }) eo fun g2 eo2 sb => ?_⟩
    have nT : s.heap.objs.size ≠ e := Nat.ne_of_gt le
    have gT2 := (sb.2 _ nT).trans gT
    have new : ObjOk X.prog X.w (upd H s.heap.objs.size (.tup [.int ((i + 1 : Nat) : Int), x])) g2 s.heap.objs.size (.tup [.int ((i + 1 : Nat) : Int), x]) := ⟨by show 2 ≤ sizeLine; decide, [.int ((i + 1 : Nat) : Int) tk, u2], .cons ⟨_, rfl⟩ (.cons ru .nil), ⟨_, gT2, rfl, _, rfl⟩⟩
    have out : ∀ {b : Addr}, b ∉ [e, it] → b ≠ e ∧ b ≠ it := fun {b} m => ⟨fun y => m (by rw [y]; exact List.mem_cons_self), fun y => m (by rw [y]; exact List.mem_cons_of_mem _ List.mem_cons_self)⟩
    have J := I.turnedNew (t' := tk + 1) (ch := [e, it]) (fun b ob m y => (sb.2 b (out m).1).trans (gk b ob (out m).1 (out m).2 y)) hf (Nat.le_refl _) new
    refine ⟨.ref s.heap.objs.size, _, J, rfl, ⟨_, x, rfl, I.hok.fresh (Nat.le_refl _), rfl, fun ys hy => by rw [I.tuple_inj hy hq]; exact hx⟩, ⟨⟨u2, ?_⟩, st.1.at fun o q => (sb.2 it z3.symm).trans q, z3, z4, z5⟩, fun b m => ?_⟩
    · rw [show (((i + 1 + 1 : Nat) : Nat) : Int) = ((i + 1 : Nat) : Int) + 1 by omega]
      exact eo2
    · have lb : b < s.heap.objs.size := by
        rcases List.mem_cons.mp m with y | y
        · rw [y]; exact le
        · rw [List.mem_singleton.mp y]; exact lt
      rw [upd_ne (Nat.ne_of_lt lb)]
      exact (hf b m).1
  done := by
    intro X e1 e2 e3 hc i pins s σ H E I hf ⟨⟨old, z1⟩, z2, z3, z4, z5⟩ ⟨xs, hq, hx⟩
    subst e1 e2 e3
    obtain ⟨its, rv, tp, hz⟩ := I.tuple hq
    have le : e < s.heap.objs.size := Heap.lt_size z1
    have D := Draws.tuple (prog := X.prog) (w := X.w) (A := X.A.in1) (by exact I.ok.hd hc) it a z4 its.toArray
    obtain ⟨f0, f1, f2, f3, f4, f5⟩ := hf it (List.mem_cons_of_mem _ List.mem_cons_self)
    have big : its.toArray.size = i := by
      rw [List.size_toArray, ← rv.length]
      exact hx
    rw [← big] at z2
    exact wpAny_pyNext_enum_endD D z1 ⟨z2, tp⟩ fun g eb => ⟨rfl, I.turned (t' := s.toks) (fun b o m y => eb b o m y) f0 f1 f3 f4 f5⟩
  self := fun A i s Q E ⟨⟨_, z⟩, _⟩ h => wpAny_pyIter_enum z h
def iEnumF (K : PySem.W.Frag) (ta : TA) : TI := fun σ H R => ta σ H fun vs H1 => ∃ a xs, vs = [.ref a] ∧ SqT K H1 a xs ∧ R (ItF K a) H1
theorem pi_enumF {X : Cx} {e : Expr} {ta : TA} {p pos tpos cp kp : Pos} {j : Nat} {elts : List Expr} {kk : Nat} (hg : Gl X "enumerate") (hm : X.mg "enumerate" = none) (ha : PA X [e] ta)
    (hk : L2.PK X [⟨some (Str.ofString "start"), .Constant (.int 1) j cp, kp⟩] (tCons (tC (.int 1)) tNil) := by exact L2.pk_cons L2.pe_int L2.pk_nil)
    (he : backTo pos (starEach [e] X.env) = (false, eval e X.env) :: backTo pos (starEach [] X.env) := by rfl) (hpl : (backTo pos (starEach [e] X.env)).any (·.1) = false := by rfl)
    (hall : (backToKw pos (keywordEach [⟨some (Str.ofString "start"), .Constant (.int 1) j cp, kp⟩] X.env)).all (·.1.isSome) = true := by rfl) (hnone : (backToKw pos (keywordEach [⟨some (Str.ofString "start"), .Constant (.int 1) j cp, kp⟩] X.env)).any (·.1.isNone) = false := by rfl)
    (hks : (backToKw pos (keywordEach [⟨some (Str.ofString "start"), .Constant (.int 1) j cp, kp⟩] X.env)).filterMap (·.1) = [Str.ofString "start"] := by rfl) :
    PI X (.Tuple elts kk tpos) (.Call (.Name "enumerate" p) [e] [⟨some (Str.ofString "start"), .Constant (.int 1) j cp, kp⟩] pos) (iEnumF X.K ta) := by
  refine ⟨fun pins s σ H R I h => ?_⟩
  refine wpAny_Call_Name_kw (ld_blt I hg hm boot_enumerate ?_)
  refine callTypeKw (thn (ha.run pos pins s σ H _ I h) fun us s1 z => ?_) he hpl hall hnone
  obtain ⟨vs, H1, I1, r1, a, xs, rfl, hq, q⟩ := z
  rw [Vals.ref1 r1]
  refine thn (hk.run pos pins s1 σ H1 (fun zs H2 => zs = [.int 1] ∧ H2 = H1) I1 (show _ ∧ _ from ⟨rfl, rfl⟩)) fun ws s2 y => ?_
  obtain ⟨zs, H2, I2, r2, rfl, rfl⟩ := y
  rw [hks]
  obtain ⟨u, rfl, tk, rfl⟩ := vals1 r2
  obtain ⟨its, rv, tp, hz⟩ := I2.tuple hq
  have la : a < s2.heap.objs.size := by
    obtain ⟨o, ho, _⟩ := tp
    exact Heap.lt_size ho
  refine enum_begins_start (k := 1) (t := tk) (begins_tuple a its.toArray) tp (by decide) (by decide) fun g z1 z2 z0 z3 => wpAny_pyIter_enum z1 ?_
  have nn : ∀ b ∈ [s2.heap.objs.size + 1, s2.heap.objs.size], s2.heap.objs.size ≤ b := fun b m => by
    rcases List.mem_cons.mp m with y | y
    · omega
    · rw [List.mem_singleton.mp y]
      exact Nat.le_refl _
  exact ⟨_, _, _, _, H2, rfl, I2.kept (t' := s2.toks) z3, turn_enumF a (s2.heap.objs.size + 1) s2.heap.objs.size, ⟨⟨.none, z1⟩, ⟨_, z2, rfl, rfl⟩, Nat.succ_ne_self _, Nat.ne_of_lt la, Nat.ne_of_lt (Nat.lt_succ_of_lt la)⟩, fun b m => I2.fpOk (nn b m) (I2.hok.fresh (nn b m)), q⟩
def enumF (ds : List PyData) : List PyData := (List.range ds.length).zipWith (fun (i : Nat) d => PyData.tuple [.int ((i + 1 : Nat) : Int), d]) ds
theorem enumF_at {ds : List PyData} {i : Nat} {d : PyData} (h : (enumF ds)[i]? = some d) : ∃ x, ds[i]? = some x ∧ d = .tuple [.int ((i + 1 : Nat) : Int), x] := by
  unfold enumF at h
  rw [List.getElem?_zipWith] at h
  cases z1 : (List.range ds.length)[i]? with
  | none => rw [z1] at h; cases h
  | some j =>
    cases z2 : ds[i]? with
    | none => rw [z1, z2] at h; cases h
    | some x =>
      rw [z1, z2] at h
      obtain ⟨y1, y2⟩ := List.getElem?_eq_some_iff.mp z1
      rw [List.getElem_range] at y2
      subst y2
      cases h
      exact ⟨x, rfl, rfl⟩
theorem enumF_len {ds : List PyData} : (enumF ds).length = ds.length := by
  unfold enumF
  rw [List.length_zipWith, List.length_range, Nat.min_self]
section
variable {K : PySem.W.Frag} {G0 : Hp} {a : Addr} {xs : List V} {ds : List PyData}
theorem walk_enumF (h : SqT K G0 a xs) (q : DpAll K G0 xs ds) : WalkD K G0 (ItF K a) (enumF ds) := by
  intro G H s1 s2
  have hq : SqT K H a xs := seqT (s1.trans s2) h
  refine ⟨fun i d e => ?_, xs, hq, by rw [enumF_len, dpAll_len q]⟩
  obtain ⟨x, e1, rfl⟩ := enumF_at e
  obtain ⟨v, e2, e3⟩ := dpAll_get q e1
  refine ⟨⟨xs, v, hq, e2⟩, fun u H2 ⟨T, y, z1, z2, z3, z4⟩ => .inr ⟨T, [.int ((i + 1 : Nat) : Int), y], _, z1, z2, z3, rfl, ?_⟩⟩
  have z5 := z4 xs hq
  rw [e2] at z5
  cases z5
  exact .cons (.int _) (.cons (dp_same s1 e3) .nil)
end
def i_enumF (f : Fe) : Fi := fun e => match f e with
  | some (r, e1) => (match frzR r with
    | .im (.tuple ds) => some (enumF ds, e1)
    | _ => none)
  | none => none
theorem id_enumF {X : Cx} {a : Expr} {fa : Fe} {pos p tpos cp kp : Pos} {j : Nat} {elts : List Expr} {kk : Nat} (ha : ED X a fa) (hm : X.mg "enumerate" = none) (hg : Gl X "enumerate" := by rfl)
    (hk : L2.PK X [⟨some (Str.ofString "start"), .Constant (.int 1) j cp, kp⟩] (tCons (tC (.int 1)) tNil) := by exact L2.pk_cons L2.pe_int L2.pk_nil) (hs : starEach [a] X.env = [(false, eval a X.env)] := by rfl)
    (he : backTo pos (starEach [a] X.env) = (false, eval a X.env) :: backTo pos (starEach [] X.env) := by rfl) (hpl : (backTo pos (starEach [a] X.env)).any (·.1) = false := by rfl)
    (hall : (backToKw pos (keywordEach [⟨some (Str.ofString "start"), .Constant (.int 1) j cp, kp⟩] X.env)).all (·.1.isSome) = true := by rfl) (hnone : (backToKw pos (keywordEach [⟨some (Str.ofString "start"), .Constant (.int 1) j cp, kp⟩] X.env)).any (·.1.isNone) = false := by rfl)
    (hks : (backToKw pos (keywordEach [⟨some (Str.ofString "start"), .Constant (.int 1) j cp, kp⟩] X.env)).filterMap (·.1) = [Str.ofString "start"] := by rfl) :
    ID X (.Tuple elts kk tpos) (.Call (.Name "enumerate" p) [a] [⟨some (Str.ofString "start"), .Constant (.int 1) j cp, kp⟩] pos) (i_enumF fa) := by
  obtain ⟨t, pa, k⟩ := ha
  refine ⟨_, pi_enumF hg hm (pa_cons pa pa_nil hs) hk he hpl hall hnone hks, fun m E G0 G e σ H ds e' Q R q P => ?_⟩
  unfold i_enumF at q
  split at q
  · rename_i r e1 h1
    split at q
    · rename_i ds0 h2
      cases q
      refine k m E G0 G e σ H r _ _ R h1 fun v G1 H1 R1 S1 V1 N1 => ?_
      obtain ⟨G2, R2, S2, s2, V2⟩ := R1.freeze S1 V1 N1
      rw [h2] at V2
      have V3 : Dp X.K G2 v (.tuple ds0) := V2
      cases V3 with
      | tup h z => exact ⟨_, _, rfl, seqT R2.gh h, P _ _ _ R2 S2 (walk_enumF h z)⟩
    · cases q
  · cases q
end DL
namespace DL
open PySem PySem.Spec PyProof.Rows L2
end DL
namespace DL
open PySem PySem.Spec PySem.W PyProof.Rows L2
def popO {α : Type} (l : List α) : Option (α × List α) := match l[l.length - 1]? with
  | some a => some (a, l.dropLast)
  | none => none
theorem popO_ok {α : Type} (l : List α) (a : α) : popO (l ++ [a]) = some (a, l) := by
  unfold popO
  rw [List.length_append, List.length_singleton, Nat.add_sub_cancel, List.getElem?_append_right (Nat.le_refl _), Nat.sub_self, List.dropLast_concat]
  rfl
theorem popX {α : Type} {f : α → PyData} {l : List α} {w : α × List α} {e : Ev} {i : Nat} (h : popO l = some w) (hi : e[i]? = some (some (.ac (l.map f)))) :
    x_pop0 i e = some (.im (f w.1), e.set i (some (.ac (w.2.map f)))) := by
  unfold popO at h
  unfold x_pop0
  rw [hi]
  dsimp only
  rw [List.length_map, List.getElem?_map]
  cases z : l[l.length - 1]? with
  | none => rw [z] at h; cases h
  | some a =>
    rw [z] at h
    cases h
    show some _ = some _
    rw [List.map_dropLast]
def enumL1 {α : Type} (l : List α) : List (Int × α) := (List.range l.length).zipWith (fun (i : Nat) a => (((i + 1 : Nat) : Int), a)) l
theorem enum1_typed {α : Type} {f : α → PyData} {l : List α} : enumF (l.map f) = (enumL1 l).map (p2 PyData.int f) := by
  unfold enumF enumL1
  rw [List.map_zipWith, List.length_map, List.zipWith_map_right]
theorem enumFI {α : Type} {f : α → PyData} {l : List α} {x : Fe} {e e1 : Ev} (h : x e = some (.im (tp f l), e1)) : i_enumF x e = some ((enumL1 l).map (p2 PyData.int f), e1) := by
  unfold i_enumF
  rw [h]
  show some (enumF (l.map f), e1) = _
  rw [enum1_typed]
end DL
namespace DL
open PySem PySem.Spec PyProof.Rows L2
end DL
namespace DL
open PySem PySem.Spec PySem.W PyProof.Rows L2
end DL
namespace DL
open PySem PySem.Spec PySem.W PyProof.Rows L2
end DL
namespace DL
open PySem PySem.Spec PyProof.Rows L2
end DL
namespace DL
open PySem PySem.Spec PySem.W PyProof.Rows L2
end DL
namespace DL
open PySem PySem.Spec PyProof.Rows L2
end DL
namespace DL
open PySem PySem.Spec PyProof.Rows L2
end DL
namespace DL
open PySem PySem.Spec PyProof.Rows L2
end DL
namespace DL
open PySem PySem.Spec PyProof.Rows L2
def revS (z : Str) : Str := ⟨z.cps.toList.reverse.toArray⟩
theorem rev_pick (z : Str) : (Builtin.Str.strSliceIndices none none (-1) z.length).filterMap (z.cps[·]?) = z.cps.toList.reverse := by
  rw [picked_rev, filterMap_get, List.map_map]
  · apply List.ext_getElem?
    intro i
    by_cases hi : i < z.length
    · have hi2 : i < z.cps.toList.length := by rw [Array.length_toList]; exact hi
      rw [List.getElem?_reverse hi2, List.getElem?_map, List.getElem?_range hi]
      show some (z.cps.getD (z.length - 1 - i) 0) = _
      have h3 : z.length - 1 - i < z.cps.size := by
        have : z.length = z.cps.size := rfl
        omega
      rw [Array.length_toList, Array.getElem?_toList]
      have e : z.cps.size - 1 - i = z.length - 1 - i := rfl
      rw [e]
      simp [Array.getD, h3]
    · have h1 : ((List.range z.length).map ((fun x => z.cps.getD x 0) ∘ fun k => z.length - 1 - k)).length ≤ i := by
        rw [List.length_map, List.length_range]; omega
      have h2 : z.cps.toList.reverse.length ≤ i := by
        rw [List.length_reverse, Array.length_toList]
        exact Nat.le_of_not_lt hi
      rw [List.getElem?_eq_none h1, List.getElem?_eq_none h2]
  · intro i hi
    obtain ⟨k, hk, rfl⟩ := List.mem_map.mp hi
    have hk' : k < z.length := List.mem_range.mp hk
    show z.length - 1 - k < z.length
    omega
theorem revS_len (z : Str) : (revS z).length = z.length := by
  show (z.cps.toList.reverse.toArray).size = z.cps.size
  rw [List.size_toArray, List.length_reverse, Array.length_toList]
def tRvS (te : TE) : TE := fun σ H Q => te σ H fun x H1 => ∃ z, x = .str z ∧ z.length ≤ sizeLine ∧ Q (.str (revS z)) H1
section
variable {X : Cx}
theorem pe_rvS {e : Expr} {te : TE} {k : Nat} {p1 p2 p3 pos : Pos} (he : PE X e te) : PE X (.Subscript e (.Slice none none (some (.UnaryOp .USub (.Constant (.int 1) k p1) p2)) p3) pos) (tRvS te) := by
  refine ⟨fun pins s σ H Q I h => ?_⟩
  refine Subscript_ (thn (he.run pins s σ H _ I h) fun v s1 ⟨x, H1, I1, r1, q1⟩ => ?_)
  obtain ⟨z, ex, hz, q⟩ := q1
  subst ex
  obtain ⟨tz, rfl⟩ := r1
  have hst : PO X (some (.UnaryOp .USub (.Constant (.int 1) k p1) p2)) (tPart (tUn (rU fun i => .int (-i)) (tC (.int 1)))) := po_some (pe_un un_neg pe_int)
  refine wpAny_Slice (thn (po_none.run pins s1 σ H1 (fun o H2 => o = none ∧ H2 = H1) I1 ⟨rfl, rfl⟩) fun vl s2 ⟨l, H2, I2, pl, el, e2⟩ => ?_)
  subst el e2
  refine thn (po_none.run pins s2 σ H2 (fun o H3 => o = none ∧ H3 = H2) I2 ⟨rfl, rfl⟩) fun vu s3 ⟨u, H3, I3, pu, eu, e3⟩ => ?_
  subst eu e3
  refine thn (hst.run pins s3 σ H3 (fun o H4 => o = some (-1) ∧ H4 = H3) I3 ⟨1, rfl, -1, rfl, rfl, rfl⟩) fun vs s4 ⟨o, H4, I4, ps, eo, e4⟩ => ?_
  subst eo e4
  cases pl
  cases pu
  obtain ⟨ts, rfl⟩ : ∃ ts, vs = .int (-1) ts := by
    cases ps with
    | int _ t => exact ⟨t, rfl⟩
  have I5 : Inv X pins σ H4 { s4 with heap := s4.heap.push { cls := .type "slice", data := .fields #[.none, .none, .int (-1) ts] } } := I4.kept (t' := s4.toks) fun b ob q => Heap.get?_push_of_some _ q
  refine tail_any (ops := [.str z tz, .ref s4.heap.objs.size]) (typeIs_str _ _ _) (F.slot_str_getitem.lookup) ?_ (by with_unfolding_all rfl)
  refine wpAny_getItem_str_slice (l := none) (u := none) (st := some (-1, ts)) ⟨_, Heap.get?_push_size _ rfl, rfl, rfl⟩ rfl ?_
  show Made.post (if ((-1 : Int) == 1 && (Builtin.Str.strSliceIndices none none (-1) z.length).length == z.length) = true then Made.val (.str z tz)
    else Made.str ⟨((Builtin.Str.strSliceIndices none none (-1) z.length).filterMap (z.cps[·]?)).toArray⟩) (EP X pins σ Q) _
  rw [if_neg (by rw [show ((-1 : Int) == 1) = false from rfl, Bool.false_and]; exact Bool.false_ne_true), rev_pick]
  exact ⟨by rw [show (⟨z.cps.toList.reverse.toArray⟩ : Str) = revS z from rfl, revS_len]; exact hz, .str _, H4, I5.tok _, ⟨_, rfl⟩, q⟩
end
def x_rvS (fa : Fe) : Fe := fun e => match fa e with
  | some (.im (.str z), e1) => if okLen z.length = true then some (.im (.str (revS z)), e1) else none
  | _ => none
def x_slS (fa : Fe) (fl fh : Fo) : Fe := fun e => match fa e with
  | some (.im (.str z), e1) => (match fl e1 with
    | some (lo, e2) => (match fh e2 with
      | some (hi, e3) => if okLen z.length = true then some (.im (.str (cutS z lo hi)), e3) else none
      | none => none)
    | none => none)
  | _ => none
def strsD : List PyData → Option (List Str)
  | [] => some []
  | .str z :: r => (strsD r).map (z :: ·)
  | _ :: _ => none
def joinOk (a : Str) (ys : List Str) : Bool := decide ((ys.map (·.length)).sum + ys.length * a.length ≤ 16777216)
def x_join (fo fa : Fe) : Fe := fun e => match fo e with
  | some (.im (.str a), e1) => (match fa e1 with
    | some (r, e2) => (match lookR e2 (frzR r) with
      | some (.list ds) => (match strsD ds with
        | some ys => if joinOk a ys = true then some (.im (.str (Txt.join a ys)), e2) else none
        | none => none)
      | some (.tuple ds) => (match strsD ds with
        | some ys => if joinOk a ys = true then some (.im (.str (Txt.join a ys)), e2) else none
        | none => none)
      | _ => none)
    | none => none)
  | _ => none
theorem strs_all {K : PySem.W.Frag} {G : Hp} : ∀ {vs : List V} {ds : List PyData} {ys : List Str}, DpAll K G vs ds → strsD ds = some ys → vs = ys.map V.str
  | _, _, _, .nil, q => by cases q; rfl
  | _, _, ys, .cons (d := d) (ds := ds) h t, q => by
    cases h with
    | str z =>
      unfold strsD at q
      cases h2 : strsD ds with
      | none => rw [h2] at q; cases q
      | some r =>
        rw [h2] at q
        cases q
        rw [List.map_cons, strs_all t h2]
    | _ => cases q
section
variable {X : Cx} {o a tg : Expr} {fo fa : Fe} {fl fh : Fo} {lo hi : Option Expr} {pos p1 p2 p3 apos : Pos} {n : Nat}
theorem ed_rvS (ha : ED X a fa) : ED X (.Subscript a (.Slice none none (some (.UnaryOp .USub (.Constant (.int 1) n p1) p2)) p3) pos) (x_rvS fa) := by
  obtain ⟨t, p, k⟩ := ha
  refine ⟨_, pe_rvS p, fun m E G0 G e σ H r e' Q R q P => ?_⟩
  unfold x_rvS at q
  split at q
  · rename_i z e1 h1
    by_cases c : okLen z.length = true
    · rw [if_pos c] at q
      cases q
      refine k m E G0 G e σ H _ _ _ R h1 fun v G1 H1 R1 S1 V1 N1 => ?_
      cases V1
      exact ⟨z, rfl, okLen_ok c, P _ _ _ R1 S1 (.str _) True.intro⟩
    · rw [if_neg c] at q
      cases q
  · cases q
theorem ed_slS (ha : ED X a fa) (hl : OD X lo fl) (hh : OD X hi fh) : ED X (.Subscript a (.Slice lo hi none p2) pos) (x_slS fa fl fh) := by
  obtain ⟨t, p, k⟩ := ha
  obtain ⟨t1, q1, k1⟩ := hl
  obtain ⟨t2, q2, k2⟩ := hh
  refine ⟨_, pe_slice sl_str p q1 q2, fun m E G0 G e σ H r e' Q R q P => ?_⟩
  unfold x_slS at q
  split at q
  · rename_i z e1 h1
    cases h2 : fl e1 with
    | none => simp only [h2] at q; cases q
    | some y =>
      obtain ⟨i, e2⟩ := y
      simp only [h2] at q
      cases h3 : fh e2 with
      | none => simp only [h3] at q; cases q
      | some y =>
        obtain ⟨j, e3⟩ := y
        simp only [h3] at q
        by_cases c : okLen z.length = true
        · rw [if_pos c] at q
          cases q
          refine k m E G0 G e σ H _ e1 _ R h1 fun v G1 H1 R1 S1 V1 N1 => ?_
          cases V1
          refine k1 m E G0 G1 e1 σ H1 i e2 _ R1 h2 fun G2 H2 R2 S2 => ?_
          refine k2 m E G0 G2 e2 σ H2 j _ _ R2 h3 fun G3 H3 R3 S3 => ?_
          exact ⟨z, rfl, okLen_ok c, P _ _ _ R3 (S1.trans (S2.trans S3)) (.str _) True.intro⟩
        · rw [if_neg c] at q
          cases q
  · cases q
theorem ed_join (ho : ED X o fo) (ha : ED X a fa) (hs : starEach [a] X.env = [(false, eval a X.env)] := by rfl) (hbase : attributeBase o "join" X.env (eval o X.env) = eval o X.env := by rfl) (hline : (apos.endLine == pos.line) = true := by rfl) :
    ED X (.Call (.Attribute o "join" apos) [a] [] pos) (x_join fo fa) := by
  obtain ⟨t, p, k⟩ := ho
  obtain ⟨t1, q1, k1⟩ := ha
  refine ⟨_, pe_join p q1 hs hbase hline, fun m E G0 G e σ H r e' Q R q P => ?_⟩
  unfold x_join at q
  split at q
  · rename_i z e1 h1
    cases h2 : fa e1 with
    | none => simp only [h2] at q; cases q
    | some y =>
      obtain ⟨r2, e2⟩ := y
      simp only [h2] at q
      split at q
      · rename_i ds h3
        cases h4 : strsD ds with
        | none => simp only [h4] at q; cases q
        | some ys =>
          simp only [h4] at q
          by_cases c : joinOk z ys = true
          · rw [if_pos c] at q
            cases q
            refine k m E G0 G e σ H _ e1 _ R h1 fun v G1 H1 R1 S1 V1 N1 => ?_
            cases V1
            refine ⟨⟨z, rfl⟩, ?_⟩
            refine k1 m E G0 G1 e1 σ H1 r2 _ _ R1 h2 fun w G2 H2 R2 S2 V2 N2 => ?_
            obtain ⟨G3, R3, S3, s3, V3⟩ := R2.freeze S2 V2 N2
            obtain ⟨p', ws, ex, sq, dk⟩ := (R3.look V3 h3).list R3.gh
            have ew := strs_all dk h4
            subst ew
            exact ⟨z, p', ys, rfl, by rw [ex], .inl sq, of_decide_eq_true c, P _ _ _ R3 (S1.trans S3) (.str _) True.intro⟩
          · rw [if_neg c] at q
            cases q
      · rename_i ds h3
        cases h4 : strsD ds with
        | none => simp only [h4] at q; cases q
        | some ys =>
          simp only [h4] at q
          by_cases c : joinOk z ys = true
          · rw [if_pos c] at q
            cases q
            refine k m E G0 G e σ H _ e1 _ R h1 fun v G1 H1 R1 S1 V1 N1 => ?_
            cases V1
            refine ⟨⟨z, rfl⟩, ?_⟩
            refine k1 m E G0 G1 e1 σ H1 r2 _ _ R1 h2 fun w G2 H2 R2 S2 V2 N2 => ?_
            obtain ⟨G3, R3, S3, s3, V3⟩ := R2.freeze S2 V2 N2
            obtain ⟨p', ws, ex, sq, dk⟩ := (R3.look V3 h3).tup R3.gh
            have ew := strs_all dk h4
            subst ew
            exact ⟨z, p', ys, rfl, by rw [ex], .inr sq, of_decide_eq_true c, P _ _ _ R3 (S1.trans S3) (.str _) True.intro⟩
          · rw [if_neg c] at q
            cases q
      · cases q
  · cases q
def signD (z : Str) : List PyData := z.cps.toList.map fun c => PyData.str ⟨#[c]⟩
def i_txt (f : Fe) : Fi := fun e => match f e with
  | some (.im (.str z), e1) => some (signD z, e1)
  | _ => none
theorem walk_txt {K : PySem.W.Frag} {G0 : Hp} (z : Str) : WalkD K G0 (Its z) (signD z) := by
  intro G H s1 s2
  refine ⟨fun i d q => ?_, ?_⟩
  · unfold signD at q
    rw [List.getElem?_map, Array.getElem?_toList] at q
    cases h : z.cps[i]? with
    | none => rw [h] at q; cases q
    | some c =>
      rw [h] at q
      cases q
      refine ⟨(Array.getElem?_eq_some_iff.mp h).1, fun x H2 y => .inl ⟨y.1, ?_⟩⟩
      obtain ⟨c2, h2, rfl⟩ := y.2
      rw [h] at h2
      cases h2
      exact .str _
  · show z.cps.size ≤ _
    unfold signD
    rw [List.length_map, Array.length_toList]
    exact Nat.le_refl _
theorem id_txt (ha : ED X a fa) : ID X tg a (i_txt fa) := by
  obtain ⟨t, pa, k⟩ := ha
  refine ⟨_, pi_str pa, fun m E G0 G e σ H ds e' Q R q P => ?_⟩
  unfold i_txt at q
  split at q
  · rename_i z e1 h1
    cases q
    refine k m E G0 G e σ H _ _ _ R h1 fun v G1 H1 R1 S1 V1 N1 => ?_
    cases V1
    exact ⟨z, rfl, P _ _ _ R1 S1 (walk_txt z)⟩
  · cases q
def p_adS : PyData → PyData → Option Rs := fun a b => match a, b with
  | .str x, .str y => if okLen (x.length + y.length) = true then some (.im (.str (x ++ y))) else none
  | _, _ => none
theorem vb_adS {K : PySem.W.Frag} : VB K (fun x y H Q => ∃ i j, x = .str i ∧ y = .str j ∧ i.length + j.length ≤ sizeLine ∧ Q (.str (i ++ j)) H) p_adS := by
  intro m E G0 G e σ H x y dx dy rr Q R lx ly q P
  unfold p_adS at q
  split at q
  · rename_i a b
    by_cases c : okLen (a.length + b.length) = true
    · rw [if_pos c] at q
      cases q
      exact ⟨a, b, lx.str, ly.str, okLen_ok c, P.now R (.str _) True.intro⟩
    · rw [if_neg c] at q
      cases q
  · cases q
def p_ixS : PyData → PyData → Option Rs := fun a b => match a, b with
  | .str z, .int i => if okLen z.length = true then (L2.atI z.cps.toList i).map fun c => .im (.str ⟨#[c]⟩) else none
  | _, _ => none
theorem vb_ixS {K : PySem.W.Frag} : VB K rIxS p_ixS := by
  intro m E G0 G e σ H x y dx dy rr Q R lx ly q P
  unfold p_ixS at q
  split at q
  · rename_i z i
    by_cases c : okLen z.length = true
    · rw [if_pos c] at q
      cases h : L2.atI z.cps.toList i with
      | none => rw [h] at q; cases q
      | some s =>
        rw [h] at q
        cases q
        exact ⟨z, i, s, lx.str, ly.int, okLen_ok c, h, P.now R (.str _) True.intro⟩
    · rw [if_neg c] at q
      cases q
  · cases q
theorem ed_ixS {b : Expr} {fb : Fe} (ha : ED X a fa) (hb : ED X b fb) (hs : PlainIx b := by intro _ _; rfl) : ED X (.Subscript a b pos) (x_bin p_ixS fa fb) := by
  obtain ⟨ta, tb, pa, pb, k2⟩ := two_ok ha hb
  exact ⟨_, pe_ix ix_str pa pb hs, bin_ok (r := rIxS) vb_ixS k2⟩
def c_lenS : List PyData → Option Rs
  | [.str z] => if okLen z.length = true then some (.im (.int z.length)) else none
  | _ => none
theorem vc_lenS {K : PySem.W.Frag} : VC K (fun xs H Q => ∃ z, xs = [.str z] ∧ z.length ≤ sizeLine ∧ Q (.int z.length) H) c_lenS := by
  intro m E G0 G e σ H vs ds rr Q R l q P
  unfold c_lenS at q
  split at q
  · rename_i z
    by_cases c : okLen z.length = true
    · rw [if_pos c] at q
      cases q
      obtain ⟨v, rfl, lv⟩ := lv1 l
      exact ⟨z, by rw [lv.str], okLen_ok c, P.now R (.int _) True.intro⟩
    · rw [if_neg c] at q
      cases q
  · cases q
end
end DL
namespace DL
open PySem PySem.Spec PyProof.Rows L2
def revSO (z : Str) : Option Str := if okLen z.length = true then some (revS z) else none
def slSO (z : Str) (lo hi : Option Int) : Option Str := if okLen z.length = true then some (cutS z lo hi) else none
def joinSO (a : Str) (ys : List Str) : Option Str := if joinOk a ys = true then some (Txt.join a ys) else none
def adSO (a b : Str) : Option Str := if okLen (a.length + b.length) = true then some (a ++ b) else none
def ixSO (z : Str) (i : Int) : Option Str := if okLen z.length = true then (L2.atI z.cps.toList i).map fun c => (⟨#[c]⟩ : Str) else none
def lenSO (z : Str) : Option Int := if okLen z.length = true then some (z.length : Int) else none
def signs (z : Str) : List Str := z.cps.toList.map fun c => (⟨#[c]⟩ : Str)
section
variable {z w a b : Str} {ys : List Str} {fa fo x : Fe} {fl fh : Fo} {e e1 e2 e3 : Ev} {lo hi : Option Int} {r : Rs} {i : Int}
theorem rvSX (ha : fa e = some (.im (.str z), e1)) (h : revSO z = some w) : x_rvS fa e = some (.im (.str w), e1) := by
  unfold revSO at h
  unfold x_rvS
  rw [ha]
  dsimp only
  by_cases c : okLen z.length = true
  · rw [if_pos c] at h ⊢
    cases h
    rfl
  · rw [if_neg c] at h
    cases h
theorem slSX (ha : fa e = some (.im (.str z), e1)) (h1 : fl e1 = some (lo, e2)) (h2 : fh e2 = some (hi, e3)) (h : slSO z lo hi = some w) : x_slS fa fl fh e = some (.im (.str w), e3) := by
  unfold slSO at h
  unfold x_slS
  rw [ha]
  dsimp only
  rw [h1]
  dsimp only
  rw [h2]
  dsimp only
  by_cases c : okLen z.length = true
  · rw [if_pos c] at h ⊢
    cases h
    rfl
  · rw [if_neg c] at h
    cases h
theorem strsD_map : ∀ ys : List Str, strsD (ys.map PyData.str) = some ys
  | [] => rfl
  | y :: ys => by
    show (strsD (ys.map PyData.str)).map (y :: ·) = _
    rw [strsD_map ys]
    rfl
theorem joinSX (ho : fo e = some (.im (.str a), e1)) (ha : fa e1 = some (r, e2)) (l : lookR e2 (frzR r) = some (ls PyData.str ys)) (h : joinSO a ys = some w) : x_join fo fa e = some (.im (.str w), e2) := by
  unfold joinSO at h
  unfold x_join
  rw [ho]
  dsimp only
  rw [ha]
  dsimp only
  rw [l, show ls PyData.str ys = PyData.list (ys.map PyData.str) from rfl]
  dsimp only
  rw [strsD_map]
  dsimp only
  by_cases c : joinOk a ys = true
  · rw [if_pos c] at h ⊢
    cases h
    rfl
  · rw [if_neg c] at h
    cases h
theorem o_adS (h : adSO a b = some w) : p_adS (.str a) (.str b) = some (.im (.str w)) := by
  unfold adSO at h
  show (if okLen (a.length + b.length) = true then some (Rs.im (.str (a ++ b))) else none) = _
  by_cases c : okLen (a.length + b.length) = true
  · rw [if_pos c] at h ⊢
    cases h
    rfl
  · rw [if_neg c] at h
    cases h
theorem o_ixS (h : ixSO z i = some w) : p_ixS (.str z) (.int i) = some (.im (.str w)) := by
  unfold ixSO at h
  show (if okLen z.length = true then (L2.atI z.cps.toList i).map (fun c => Rs.im (.str ⟨#[c]⟩)) else none) = _
  by_cases c : okLen z.length = true
  · rw [if_pos c] at h ⊢
    cases h2 : L2.atI z.cps.toList i with
    | none => rw [h2] at h; cases h
    | some s => rw [h2] at h; cases h; rfl
  · rw [if_neg c] at h
    cases h
theorem o_lenS (h : lenSO z = some i) : c_lenS [.str z] = some (.im (.int i)) := by
  unfold lenSO at h
  show (if okLen z.length = true then some (Rs.im (.int z.length)) else none) = _
  by_cases c : okLen z.length = true
  · rw [if_pos c] at h ⊢
    cases h
    rfl
  · rw [if_neg c] at h
    cases h
theorem txtI (ha : fa e = some (.im (.str z), e1)) : i_txt fa e = some ((signs z).map PyData.str, e1) := by
  unfold i_txt
  rw [ha]
  show some (signD z, e1) = _
  unfold signs
  rw [List.map_map]
  rfl
end
end DL
namespace DL
open PySem PySem.Spec PySem.W PyProof.Rows L2
def zkD : PyData → PyData → Option (List (PyData × PyData))
  | .list a, .list b => some (a.zip b)
  | .tuple a, .tuple b => some (a.zip b)
  | _, _ => none
theorem zkX {x y : Fe} {e e1 e2 : Ev} {a b : PyData} {l : List (PyData × PyData)} (h : x e = some (.im a, e1)) (h2 : y e1 = some (.im b, e2)) (k : zkD a b = some l) : i_zip x y e = some (l.map (p2 idD idD), e2) := by
  have zz : ∀ (a b : List PyData), zipD a b = (a.zip b).map (p2 idD idD) := fun a b => by
    have := zip_typed (f := idD) (g := idD) (l := a) (m := b)
    rw [show a.map idD = a from List.map_id' a, show b.map idD = b from List.map_id' b] at this
    exact this
  cases a with
  | list a =>
    cases b with
    | list b =>
      cases k
      rw [r_i_zip, r_two, h]
      simp only [h2, frzR, zz]
    | _ => cases k
  | tuple a =>
    cases b with
    | tuple b =>
      cases k
      rw [r_i_zip, r_two, h]
      simp only [h2, frzR, zz]
    | _ => cases k
  | _ => cases k
end DL
namespace DL
open PySem PySem.Spec PySem.W PyProof.Rows L2
section
variable {c d : Ft} {x y : Fe} {e e1 : Ev}
theorem torM {σ : Type} {p q : Bool} {o : Option (Bool × σ)} {s0 s : σ} (W : σ → Ev) (h : c e = some (p, e1)) (h0 : e1 = W s0) (k : (if p = true then some (true, s0) else o) = some (q, s)) (hy : p = false → ∀ q' s', o = some (q', s') → d e1 = some (q', W s')) : t_or c d e = some (q, W s) := by
  rw [r_t_or, h]
  cases p with
  | true => cases k; rw [h0]
  | false => exact hy rfl q s k
end
end DL
namespace DL
open PySem PySem.Spec PySem.W PyProof.Rows L2
def repS (z : Str) (n : Int) : Str := if n < 1 then Str.empty else if (n == 1 || z.length == 0) = true then z else ⟨(List.replicate n.toNat z.cps).foldl (· ++ ·) #[]⟩
theorem fold_size (a : Array Nat) : ∀ (k : Nat) (b : Array Nat), ((List.replicate k a).foldl (· ++ ·) b).size = b.size + k * a.size
  | 0, b => by
    show b.size = _
    omega
  | k + 1, b => by
    rw [List.replicate_succ, List.foldl_cons, fold_size a k (b ++ a), Array.size_append, Nat.succ_mul]
    omega
def rMulS : L2.R2 := fun x y H Q => ∃ z n, x = .str z ∧ y = .int n ∧ 0 ≤ n ∧ n ≤ 1000 ∧ z.length ≤ 1000 ∧ Q (.str (repS z n)) H
theorem op_mulS {X : L2.Cx} : OpR X (binaryOp .Mult) rMulS := by
  intro pins s σ H x y v u Q I rx ry h
  obtain ⟨z, n, rfl, rfl, h0, h1, hz, q⟩ := h
  obtain ⟨t, rfl⟩ := rx
  obtain ⟨t', rfl⟩ := ry
  have nn : n.toNat ≤ 1000 := by omega
  have mz : z.length * n.toNat ≤ 1000 * 1000 := Nat.mul_le_mul hz nn
  refine P.mul_str (by rw [decide_eq_false (by omega), decide_eq_false (by omega)]; rfl) (fun a b => ?_) (fun a b => ?_) ?_
  · have e : (9223372036854775807 : Int) / 1000 ≤ 9223372036854775807 / n := by
      rw [Int.le_ediv_iff_mul_le (by omega)]
      have : (9223372036854775807 : Int) / 1000 = 9223372036854775 := by decide
      rw [this]
      have : (9223372036854775 : Int) * n ≤ 9223372036854775 * 1000 := Int.mul_le_mul_of_nonneg_left h1 (by omega)
      omega
    have e2 : (9223372036854775807 : Int) / 1000 = 9223372036854775 := by decide
    have e3 : (2 : Int) ^ 63 - 1 = 9223372036854775807 := by decide
    rw [e3]
    omega
  · have hs := sizeLine_eq
    unfold Builtin.Str.tooLong
    exact decide_eq_false (by omega)
  · unfold repS at q
    by_cases c : n < 1
    · rw [if_pos c] at q ⊢
      exact ⟨by decide, .str _, H, I.tok _, ⟨_, rfl⟩, q⟩
    · rw [if_neg c] at q ⊢
      by_cases d : (n == 1 || z.length == 0) = true
      · rw [if_pos d] at q ⊢
        exact ⟨.str z, H, I, ⟨t, rfl⟩, q⟩
      · rw [if_neg d] at q ⊢
        refine ⟨?_, .str _, H, I.tok _, ⟨_, rfl⟩, q⟩
        show ((List.replicate n.toNat z.cps).foldl (· ++ ·) #[]).size ≤ _
        rw [fold_size]
        have e1 : z.cps.size = z.length := rfl
        have e2 := sizeLine_eq
        have e3 : (#[] : Array Nat).size = 0 := rfl
        rw [e1, e3, Nat.mul_comm]
        omega
def p_mulS : PyData → PyData → Option Rs := fun a b => match a, b with
  | .str z, .int n => if 0 ≤ n ∧ n ≤ 1000 ∧ z.length ≤ 1000 then some (.im (.str (repS z n))) else none
  | _, _ => none
theorem vb_mulS {K : PySem.W.Frag} : VB K rMulS p_mulS := by
  intro m E G0 G e σ H x y dx dy rr Q R lx ly q P
  unfold p_mulS at q
  split at q
  · rename_i z n
    by_cases c : 0 ≤ n ∧ n ≤ 1000 ∧ z.length ≤ 1000
    · rw [if_pos c] at q
      cases q
      exact ⟨z, n, lx.str, ly.int, c.1, c.2.1, c.2.2, P.now R (.str _) True.intro⟩
    · rw [if_neg c] at q
      cases q
  · cases q
def mulSO (z : Str) (n : Int) : Option Str := if 0 ≤ n ∧ n ≤ 1000 ∧ z.length ≤ 1000 then some (repS z n) else none
theorem o_mulS {z w : Str} {n : Int} (h : mulSO z n = some w) : p_mulS (.str z) (.int n) = some (.im (.str w)) := by
  unfold mulSO at h
  show (if 0 ≤ n ∧ n ≤ 1000 ∧ z.length ≤ 1000 then some (Rs.im (.str (repS z n))) else none) = _
  by_cases c : 0 ≤ n ∧ n ≤ 1000 ∧ z.length ≤ 1000
  · rw [if_pos c] at h ⊢
    cases h
    rfl
  · rw [if_neg c] at h
    cases h
def txD : PyData → Option (List Str)
  | .str z => some (signs z)
  | _ => none
theorem txtDX {fa : Fe} {e e1 : Ev} {a : PyData} {l : List Str} (ha : fa e = some (.im a, e1)) (k : txD a = some l) : i_txt fa e = some (l.map PyData.str, e1) := by
  cases a with
  | str z =>
    cases k
    exact txtI ha
  | _ => cases k
instance {α : Type} [DecidableEq α] {f : α → PyData} [E : EqE (tp f)] : EqE (opt (tp f)) := ⟨E.d, fun a => by
    cases a with
    | none => show PyData.canLay0 .none = true; rw [PyData.canLay0]
    | some a => exact E.can a, fun a => by
    cases a with
    | none => show PyData.depth .none ≤ _; rw [PyData.depth]; omega
    | some a => exact E.dep a, fun a b => by
    cases a with
    | none =>
      cases b with
      | none => show PyData.eqv .none .none = _; rw [PyData.eqv]; rfl
      | some b => show PyData.eqv .none (.tuple (b.map f)) = _; rw [PyData.eqv] <;> first | rfl | (intros; simp_all)
    | some a =>
      cases b with
      | none => show PyData.eqv (.tuple (a.map f)) .none = _; rw [PyData.eqv] <;> first | rfl | (intros; simp_all)
      | some b =>
        show PyData.eqv (tp f a) (tp f b) = _
        rw [E.eqv]
        exact decide_eq_decide.mpr ⟨fun h => by rw [h], fun h => Option.some.inj h⟩⟩
end DL
namespace DL
open PySem PySem.Spec PySem.W PyProof.Rows L2
def faOf (f : Fax) : Fa := fun e => match f e with
  | some (.inl z) => some z
  | _ => none
def x_upX (f : Fax) (g : Fex) : Fex := fun e => match f e with
  | some (.inr y) => some (.inr y)
  | _ => g e
section
variable {X : Cx} {W : WX} {k j n : Nat} {x : Str} {p pos : Pos} {a : Expr} {es : List Expr} {dvs : List V} {dds : List PyData} {fr : Fax}
theorem ADX.ad (h : ADX X W es fr) : AD X es (faOf fr) := by
  refine ⟨_, h.run, fun m E G0 G e σ H rs e' Q R q P => ?_⟩
  unfold faOf at q
  split at q
  · rename_i z h1
    cases q
    exact ⟨m, E, G0, G, e, _, R, h1, P⟩
  · cases q
theorem edx_callA {φ : List PyData → Option Rs} (F : Kf X.prog X.w X.K X.mg X.base k x (spD X.K n φ) dvs) (hr : Room j X.A) (hk : k ≤ j) (hd : dvsD X.K dvs dds) (hn : ∀ ds, (φ ds).isSome = true → ds.length = n) (h : ADX X W (a :: es) fr) (hg : Gl X x := by rfl)
    (hdb : (x == ("__debug__" : Str)) = false := by decide) (he : starEach (a :: es) X.env = (false, eval a X.env) :: starEach es X.env := by rfl) (hpl : (backTo pos (starEach es X.env)).any (·.1) = false := by rfl) :
    EDX X W (.Call (.Name x p) (a :: es) [] pos) (x_upX fr (xE (x_call φ dds (faOf fr)))) := by
  have two := ED.x (W := W) (ed_call (p := p) (pos := pos) F hr hk hd hn h.ad hg hdb he hpl)
  obtain ⟨f, fd, ps, ds, F, hm, kp, hb, hv⟩ := F
  have one := pe_call (p := p) (pos := pos) F (hr.mono hk) hg hm kp hb hv (E := E0) (fun _ _ _ _ _ _ _ z => z.elim) h.run hdb he hpl
  refine ⟨⟨fun pins s σ H Q I q => ?_⟩⟩
  obtain ⟨m, E, G0, G, e, o, R, q, P⟩ := q
  unfold x_upX at q
  split at q
  · rename_i y h1
    cases q
    obtain ⟨z, e1⟩ := y
    exact one.run pins s σ H Q I ⟨m, E, G0, G, e, _, R, h1, P⟩
  · exact two.run.run pins s σ H Q I ⟨m, E, G0, G, e, _, R, q, P⟩
end
end DL
namespace DL
open PySem PySem.Spec PySem.W PyProof.Rows L2
theorem mI2 {φ : List PyData → List PyData → Option (Rs × List PyData)} {dds rest ds' : List PyData} {fa : Fa} {e e1 : Ev} {i : Nat} {c0 c c' : List PyData} {d : PyData} (h0 : e[i]? = some (some (.ac c0))) (ha : argsI fa e = some (rest, e1)) (hi : e1[i]? = some (some (.ac c))) (hd : rest ++ dds = ds') (h : φ c ds' = some (.im d, c')) : x_callM φ dds (a_cons (x_var i) fa) e = some (.im d, e1.set i (some (.ac c'))) := by
  rw [r_argsI] at ha
  rw [r_x_callM, r_a_cons, r_x_var, h0]
  dsimp only
  cases z : fa e with
  | none => rw [z] at ha; cases ha
  | some p =>
    obtain ⟨rs, e3⟩ := p
    rw [z] at ha
    dsimp only at ha
    cases y : imAll rs with
    | none => rw [y] at ha; cases ha
    | some es =>
      rw [y] at ha
      cases ha
      simp only [frzR, y, hi, hd, h]
end DL
namespace K24
open PySem PySem.Spec PyProof.Rows L2 DL
def xcs : List Str := ["NotUsable"]
def xys : List Str := ["NotUsable"]
def xfs : List Str := ["at", "word"]
def xtab : XTab := [(("NotUsable", "NotUsable"), true)]
def xok : Str → Bool := fun k => xcs.contains k
noncomputable section
def g_is_integer : Fs :=
  (s_ret (x_and (x_isi .int (x_var 0)) (x_not (x_isi .bool (x_var 0)))))
def F_is_integer : List PyData → Option Rs := runF 1 0 g_is_integer
def g_last_full : Fs :=
  (s_seq (s_setF 1 (x_c (.int 0)))
  (s_seq (s_for (i_enumF (x_var 0)) (g_tup [2, 3]) [2, 3]
  (s_if (t_of (x_bin p_eq (x_var 3) (x_c (.int 0))))
  (s_setF 1 (x_var 2))
  s_nx))
  (s_seq (s_ret (x_var 1))
  s_nx)))
def F_last_full : List PyData → Option Rs := runF 1 3 g_last_full
def g_put_beside : Fs :=
  (s_seq (s_setF 2 (x_bin p_add (x_cb c_len (a_cons (x_var 0) a_nil)) (x_c (.int 1))))
  (s_seq (s_ret (x_bin p_add (x_bin p_add (x_var 0) (x_tup (a_cons (x_c (.int 0)) a_nil))) (x_cb c_tuple (a_cons (x_lc (i_seq (x_var 1)) (g_name 3) t_yes (x_bin p_add (x_var 2) (x_var 3)) [3]) a_nil))))
  s_nx))
def F_put_beside : List PyData → Option Rs := runF 2 2 g_put_beside
def g_is_track : Fs :=
  (s_seq (s_if (t_not (t_of (x_isi .str (x_var 0))))
  (s_ret (x_c (.bool false)))
  s_nx)
  (s_seq (s_setF 1 (x_c (.int 1)))
  (s_seq (s_for (i_txt (x_var 0)) (g_name 2) [2]
  (s_seq (s_if (t_of (x_bin p_eq (x_var 1) (x_c (.int 0))))
  (s_ret (x_c (.bool false)))
  s_nx)
  (s_seq (s_if (t_of (x_bin p_eq (x_var 2) (x_c (.str "+"))))
  (s_aug (fun i j => i + j) 1 (x_c (.int 1)))
  (s_if (t_of (x_bin p_eq (x_var 2) (x_c (.str "-"))))
  (s_aug (fun i j => i - j) 1 (x_c (.int 1)))
  (s_ret (x_c (.bool false)))))
  s_nx)))
  (s_seq (s_ret (x_bin p_eq (x_var 1) (x_c (.int 0))))
  s_nx))))
def F_is_track : List PyData → Option Rs := runF 1 2 g_is_track
def g__law_hand : Fs :=
  (s_ret (x_lst (a_cons (x_cb c_list (a_cons (x_var 0) a_nil)) (a_cons (x_c (.int 0)) (a_cons (x_c (.int 0)) (a_cons (x_c (.int 0)) (a_cons (x_c (.int 0)) a_nil)))))))
def F__law_hand : List PyData → Option Rs := runF 1 0 g__law_hand
def g__law_take : Fs :=
  (s_seq (s_put 0 (x_bin p_add (x_ix (x_var 0) (x_c (.int 4))) (x_c (.int 1))) (x_c (.int 4)))
  (s_seq (s_if (t_of (x_bin p_eq (x_cb c_len (a_cons (x_ix (x_var 0) (x_c (.int 0))) a_nil)) (x_c (.int 0))))
  (s_ret (x_bin p_mod (x_cb c_int (a_cons (x_bin p_add (x_c (.int 2)) (x_bin p_mul (x_c (.int 3)) (x_ix (x_var 0) (x_c (.int 4))))) a_nil)) (x_var 1)))
  s_nx)
  (s_seq (s_if (t_and (t_of (x_bin p_eq (x_ix (x_var 0) (x_c (.int 2))) (x_c (.int 0)))) (t_of (x_bin q_lt (x_ix (x_var 0) (x_c (.int 1))) (x_cb c_len (a_cons (x_ix (x_var 0) (x_c (.int 0))) a_nil)))))
  (s_seq (s_setF 3 (x_ix (x_ix (x_var 0) (x_c (.int 0))) (x_ix (x_var 0) (x_c (.int 1)))))
  (s_seq (s_put 0 (x_bin p_add (x_ix (x_var 0) (x_c (.int 1))) (x_c (.int 1))) (x_c (.int 1)))
  (s_seq (s_put 0 (x_bin p_mod (x_cb c_int (a_cons (x_bin p_add (x_bin p_add (x_bin p_mul (x_ix (x_var 0) (x_c (.int 3))) (x_c (.int 131))) (x_var 3)) (x_c (.int 24))) a_nil)) (x_c (.int 2147483629))) (x_c (.int 3)))
  (s_seq (s_if (t_of (x_bin q_ge (x_cb c_abs (a_cons (x_var 3) a_nil)) (x_bin p_pow (x_c (.int 10)) (x_c (.int 18)))))
  (s_put 0 (x_bin p_mod (x_cb c_int (a_cons (x_cb c_abs (a_cons (x_var 3) a_nil)) a_nil)) (x_bin p_pow (x_c (.int 10)) (x_c (.int 60)))) (x_c (.int 2)))
  s_nx)
  s_nx))))
  s_nx)
  (s_seq (s_if (t_of (x_bin q_gt (x_ix (x_var 0) (x_c (.int 2))) (x_c (.int 0))))
  (s_seq (s_setF 4 (x_bin p_mod (x_cb c_int (a_cons (x_ix (x_var 0) (x_c (.int 2))) a_nil)) (x_var 1)))
  (s_seq (s_put 0 (x_bin p_div (x_ix (x_var 0) (x_c (.int 2))) (x_var 1)) (x_c (.int 2)))
  (s_seq (s_ret (x_var 4))
  s_nx)))
  s_nx)
  (s_seq (s_setF 2 (x_bin p_mod (x_cb c_int (a_cons (x_bin p_mul (x_bin p_add (x_ix (x_var 0) (x_c (.int 3))) (x_bin p_mul (x_ix (x_var 0) (x_c (.int 4))) (x_c (.int 40503)))) (x_c (.int 48271))) a_nil)) (x_c (.int 2147483647))))
  (s_seq (s_setF 2 (x_bin p_mod (x_cb c_int (a_cons (x_bin p_add (x_bin p_mul (x_var 2) (x_var 2)) (x_ix (x_var 0) (x_c (.int 4)))) a_nil)) (x_c (.int 1000003))))
  (s_seq (s_ret (x_bin p_mod (x_cb c_int (a_cons (x_bin p_div (x_bin p_mod (x_cb c_int (a_cons (x_bin p_add (x_bin p_mul (x_var 2) (x_c (.int 7919))) (x_ix (x_var 0) (x_c (.int 3)))) a_nil)) (x_c (.int 998244353))) (x_c (.int 11))) a_nil)) (x_var 1)))
  s_nx)))))))
def F__law_take : List PyData → List PyData → Option (Rs × List PyData) := runM 1 3 g__law_take
def g__law_is_plan : Fs :=
  (s_seq (s_for (i_rng1 (x_cb c_len (a_cons (x_var 0) a_nil))) (g_name 1) [1]
  (s_seq (s_if (t_or (t_of (x_bin q_lt (x_ix (x_var 0) (x_var 1)) (x_c (.int 0)))) (t_of (x_bin q_gt (x_ix (x_var 0) (x_var 1)) (x_var 1))))
  (s_ret (x_c (.bool false)))
  s_nx)
  (s_seq (s_for (i_rng2 (x_bin p_add (x_ix (x_var 0) (x_var 1)) (x_c (.int 1))) (x_bin p_add (x_var 1) (x_c (.int 1)))) (g_name 2) [2]
  (s_if (t_of (x_bin q_gt (x_ix (x_var 0) (x_var 1)) (x_ix (x_var 0) (x_bin p_sub (x_var 2) (x_c (.int 1))))))
  (s_ret (x_c (.bool false)))
  s_nx))
  s_nx)))
  (s_seq (s_ret (x_c (.bool true)))
  s_nx))
def F__law_is_plan : List PyData → Option Rs := runF 1 2 g__law_is_plan
def g__law_reads : Fs :=
  (s_seq (s_set 1 (x_lst (a_cons (x_c (.int 0)) a_nil)))
  (s_seq (s_for (i_seq (x_var 0)) (g_name 2) [2]
  (s_drop (x_app 1 (x_bin p_add (x_ix (x_var 1) (x_var 2)) (x_c (.int 1))))))
  (s_seq (s_ret (x_var 1))
  s_nx)))
def F__law_reads : List PyData → Option Rs := runF 1 2 g__law_reads
def g__law_writes : Fs :=
  (s_ret (x_lc (i_rng2 (x_c (.int 1)) (x_bin p_add (x_cb c_len (a_cons (x_var 0) a_nil)) (x_c (.int 1)))) (g_name 1) t_yes (x_cb c_sum (a_cons (x_lc (i_rng2 (x_var 1) (x_bin p_add (x_cb c_len (a_cons (x_var 0) a_nil)) (x_c (.int 1)))) (g_name 2) t_yes (x_cb c_int (a_cons (x_bin q_lt (x_ix (x_var 0) (x_bin p_sub (x_var 2) (x_c (.int 1)))) (x_var 1)) a_nil)) [2]) a_nil)) [1]))
def F__law_writes : List PyData → Option Rs := runF 1 2 g__law_writes
def g__law_by_reads : Fs :=
  (s_seq (s_set 1 (x_lst a_nil))
  (s_seq (s_for (i_rng2 (x_c (.int 1)) (x_cb c_len (a_cons (x_var 0) a_nil))) (g_name 2) [2]
  (s_seq (s_setF 3 (x_bin p_sub (x_var 2) (x_c (.int 1))))
  (s_seq (s_while (fuI 3) (t_and (t_of (x_bin q_gt (x_var 3) (x_c (.int 0)))) (t_of (x_bin q_ge (x_ix (x_var 0) (x_var 3)) (x_ix (x_var 0) (x_var 2)))))
  (s_setF 3 (x_bin p_sub (x_var 3) (x_c (.int 1)))))
  (s_seq (s_drop (x_app 1 (x_var 3)))
  s_nx))))
  (s_seq (s_ret (x_cb c_tuple (a_cons (x_var 1) a_nil)))
  s_nx)))
def F__law_by_reads : List PyData → Option Rs := runF 1 3 g__law_by_reads
def g__law_buds : Fs :=
  (s_seq (s_set 1 (x_lst (a_cons (x_tup (a_cons (x_c (.int 0)) (a_cons (x_c (.int 0)) a_nil))) a_nil)))
  (s_seq (s_set 2 (x_lst a_nil))
  (s_seq (s_for (i_txt (x_var 0)) (g_name 3) [3]
  (s_seq (s_if (t_or (t_of (x_bin p_eq (x_cb c_len (a_cons (x_var 1) a_nil)) (x_c (.int 0)))) (t_of (x_bin p_notin (x_var 3) (x_tup (a_cons (x_c (.str "+")) (a_cons (x_c (.str "-")) a_nil))))))
  (s_ret (x_c .none))
  s_nx)
  (s_seq (s_asg (g_tup [4, 5]) [4, 5] (x_pop0 1))
  (s_seq (s_if (t_of (x_bin p_eq (x_var 3) (x_c (.str "+"))))
  (s_seq (s_drop (x_app 1 (x_tup (a_cons (x_var 4) (a_cons (x_bin p_add (x_var 5) (x_c (.int 1))) a_nil)))))
  (s_seq (s_drop (x_app 1 (x_tup (a_cons (x_bin p_add (x_var 4) (x_c (.int 1))) (a_cons (x_var 5) a_nil)))))
  s_nx))
  (s_drop (x_app 2 (x_tup (a_cons (x_var 4) (a_cons (x_var 5) a_nil))))))
  s_nx))))
  (s_seq (s_if (t_of (x_bin q_gt (x_cb c_len (a_cons (x_var 1) a_nil)) (x_c (.int 0))))
  (s_ret (x_c .none))
  s_nx)
  (s_seq (s_ret (x_cb c_tuple (a_cons (x_var 2) a_nil)))
  s_nx)))))
def F__law_buds : List PyData → Option Rs := runF 1 5 g__law_buds
def g_is_number : Fs :=
  (s_ret (x_and (x_call F_is_integer [] (a_cons (x_var 0) a_nil)) (x_bin q_ge (x_var 0) (x_c (.int 0)))))
def F_is_number : List PyData → Option Rs := runF 1 0 g_is_number
def g_ahead_and_behind : Fs :=
  (s_seq (s_setF 1 (x_call F_last_full [] (a_cons (x_var 0) a_nil)))
  (s_seq (s_setF 2 (x_sl (x_var 0) o_no (o_at (x_bin p_sub (x_var 1) (x_c (.int 1))))))
  (s_seq (s_setF 3 (x_cb c_tuple (a_cons (x_lc (i_seq (x_sl (x_var 0) (o_at (x_var 1)) o_no)) (g_name 4) t_yes (x_bin p_sub (x_var 4) (x_var 1)) [4]) a_nil)))
  (s_seq (s_ret (x_tup (a_cons (x_var 2) (a_cons (x_var 3) a_nil))))
  s_nx))))
def F_ahead_and_behind : List PyData → Option Rs := runF 1 4 g_ahead_and_behind
def g__built : Fs :=
  (s_seq (s_set 2 (x_lst a_nil))
  (s_seq (s_for (i_txt (x_rvS (x_var 0))) (g_name 3) [3]
  (s_seq (s_if (t_of (x_bin p_eq (x_var 3) (x_c (.str "-"))))
  (s_seq (s_drop (x_app 2 (x_tup a_nil)))
  (s_seq s_ct
  s_nx))
  s_nx)
  (s_seq (s_setF 4 (x_pop0 2))
  (s_seq (s_setF 5 (x_pop0 2))
  (s_seq (s_if (t_of (x_var 1))
  (s_drop (x_app 2 (x_call F_put_beside [] (a_cons (x_var 5) (a_cons (x_var 4) a_nil)))))
  (s_drop (x_app 2 (x_call F_put_beside [] (a_cons (x_var 4) (a_cons (x_var 5) a_nil))))))
  s_nx)))))
  (s_seq (s_ret (x_ix (x_var 2) (x_c (.int 0))))
  s_nx)))
def F__built : List PyData → Option Rs := runF 2 4 g__built
def g__law_plan : Fs :=
  (s_seq (s_set 2 (x_lst a_nil))
  (s_seq (s_setF 3 (x_lst a_nil))
  (s_seq (s_for (i_rng2 (x_c (.int 1)) (x_bin p_add (x_var 1) (x_c (.int 1)))) (g_name 4) [4]
  (s_seq (s_setF 5 (x_callM F__law_take [] (a_cons (x_var 0) (a_cons (x_bin p_add (x_cb c_len (a_cons (x_var 3) a_nil)) (x_c (.int 1))) a_nil))))
  (s_seq (s_drop (x_app 2 (x_ix (x_bin p_add (x_var 3) (x_lst (a_cons (x_c (.int 0)) a_nil))) (x_var 5))))
  (s_seq (s_setF 3 (x_bin p_add (x_lst (a_cons (x_var 4) a_nil)) (x_sl (x_var 3) (o_at (x_var 5)) o_no)))
  s_nx))))
  (s_seq (s_ret (x_cb c_tuple (a_cons (x_var 2) a_nil)))
  s_nx))))
def F__law_plan : List PyData → List PyData → Option (Rs × List PyData) := runM 1 4 g__law_plan
def g__law_sign : Fs :=
  (s_seq (s_setF 2 (x_c (.str "")))
  (s_seq (s_setF 3 (x_c (.int 1)))
  (s_seq (s_for (i_rng1 (x_bin p_add (x_bin p_mul (x_c (.int 2)) (x_var 1)) (x_c (.int 1)))) (g_name 4) [4]
  (s_if (t_and (t_of (x_bin q_gt (x_var 1) (x_c (.int 0)))) (t_or (t_of (x_bin p_eq (x_var 3) (x_c (.int 1)))) (t_of (x_bin p_eq (x_callM F__law_take [] (a_cons (x_var 0) (a_cons (x_c (.int 2)) a_nil))) (x_c (.int 0))))))
  (s_seq (s_setF 2 (x_bin p_adS (x_var 2) (x_c (.str "+"))))
  (s_seq (s_setF 1 (x_bin p_sub (x_var 1) (x_c (.int 1))))
  (s_seq (s_setF 3 (x_bin p_add (x_var 3) (x_c (.int 1))))
  s_nx)))
  (s_seq (s_setF 2 (x_bin p_adS (x_var 2) (x_c (.str "-"))))
  (s_seq (s_setF 3 (x_bin p_sub (x_var 3) (x_c (.int 1))))
  s_nx))))
  (s_seq (s_ret (x_var 2))
  s_nx))))
def F__law_sign : List PyData → List PyData → Option (Rs × List PyData) := runM 1 3 g__law_sign
def g__law_spoilt : Fs :=
  (s_seq (s_setF 2 (x_callM F__law_take [] (a_cons (x_var 0) (a_cons (x_cb c_lenS (a_cons (x_var 1) a_nil)) a_nil))))
  (s_seq (s_setF 3 (x_callM F__law_take [] (a_cons (x_var 0) (a_cons (x_c (.int 8)) a_nil))))
  (s_seq (s_if (t_of (x_bin p_eq (x_var 3) (x_c (.int 0))))
  (s_ret (x_bin p_adS (x_slS (x_var 1) o_no (o_at (x_var 2))) (x_slS (x_var 1) (o_at (x_bin p_add (x_var 2) (x_c (.int 1)))) o_no)))
  s_nx)
  (s_seq (s_if (t_of (x_bin p_eq (x_var 3) (x_c (.int 1))))
  (s_ret (x_bin p_adS (x_bin p_adS (x_slS (x_var 1) o_no (o_at (x_var 2))) (x_c (.str "-"))) (x_slS (x_var 1) (o_at (x_var 2)) o_no)))
  s_nx)
  (s_seq (s_if (t_of (x_bin p_eq (x_var 3) (x_c (.int 2))))
  (s_ret (x_bin p_adS (x_var 1) (x_c (.str "-"))))
  s_nx)
  (s_seq (s_if (t_of (x_bin p_eq (x_var 3) (x_c (.int 3))))
  (s_ret (x_bin p_adS (x_bin p_adS (x_slS (x_var 1) o_no (o_at (x_var 2))) (x_if (t_of (x_bin p_eq (x_bin p_ixS (x_var 1) (x_var 2)) (x_c (.str "+")))) (x_c (.str "-")) (x_c (.str "+")))) (x_slS (x_var 1) (o_at (x_bin p_add (x_var 2) (x_c (.int 1)))) o_no)))
  s_nx)
  (s_seq (s_if (t_of (x_bin p_eq (x_var 3) (x_c (.int 4))))
  (s_ret (x_rvS (x_var 1)))
  s_nx)
  (s_seq (s_if (t_of (x_bin p_eq (x_var 3) (x_c (.int 5))))
  (s_ret (x_bin p_adS (x_bin p_adS (x_slS (x_var 1) o_no (o_at (x_var 2))) (x_c (.str " "))) (x_slS (x_var 1) (o_at (x_var 2)) o_no)))
  s_nx)
  (s_seq (s_if (t_of (x_bin p_eq (x_var 3) (x_c (.int 6))))
  (s_ret (x_bin p_adS (x_bin p_adS (x_slS (x_var 1) o_no (o_at (x_var 2))) (x_c (.str "+"))) (x_slS (x_var 1) (o_at (x_var 2)) o_no)))
  s_nx)
  (s_seq (s_ret (x_bin p_adS (x_slS (x_var 1) (o_at (x_var 2)) o_no) (x_slS (x_var 1) o_no (o_at (x_var 2)))))
  s_nx))))))))))
def F__law_spoilt : List PyData → List PyData → Option (Rs × List PyData) := runM 1 2 g__law_spoilt
def g_is_nested : Fs :=
  (s_seq (s_if (t_not (t_of (x_isi .tuple (x_var 0))))
  (s_ret (x_c (.bool false)))
  s_nx)
  (s_seq (s_set 1 (x_lst (a_cons (x_c (.int 0)) a_nil)))
  (s_seq (s_setF 2 (x_c (.int 0)))
  (s_seq (s_for (i_seq (x_var 0)) (g_name 3) [3]
  (s_seq (s_aug (fun i j => i + j) 2 (x_c (.int 1)))
  (s_seq (s_if (t_not (t_of (x_call F_is_number [] (a_cons (x_var 3) a_nil))))
  (s_ret (x_c (.bool false)))
  s_nx)
  (s_seq (s_while (fun _ => 300) (t_of (x_bin q_gt (x_ix (x_var 1) (x_neg (x_c (.int 1)))) (x_var 3)))
  (s_drop (x_pop0 1)))
  (s_seq (s_if (t_of (x_bin p_ne (x_ix (x_var 1) (x_neg (x_c (.int 1)))) (x_var 3)))
  (s_ret (x_c (.bool false)))
  s_nx)
  (s_seq (s_drop (x_app 1 (x_var 2)))
  s_nx))))))
  (s_seq (s_ret (x_c (.bool true)))
  s_nx)))))
def F_is_nested : List PyData → Option Rs := runF 1 3 g_is_nested
def gx__need_track : Fsx :=
  (x_ifS (t_not (t_of (x_call F_is_track [] (a_cons (x_var 0) a_nil))))
  (x_raise "NotUsable" ["word", "at"] (a_cons (x_c (.str "track")) (a_cons (x_neg (x_c (.int 1))) a_nil)))
  (xS s_nx))
def FY__need_track : List PyData → Option Ro := runX 1 0 gx__need_track
def g__need_track : Fs :=
  (s_if (t_not (t_of (x_call F_is_track [] (a_cons (x_var 0) a_nil))))
  s_no
  s_nx)
def F__need_track : List PyData → Option Rs := runF 1 0 g__need_track
def FX__need_track : List PyData → Option Ro := orRx F__need_track FY__need_track
def gx_need_plan : Fsx :=
  (x_ifS (t_not (t_of (x_call F_is_nested [] (a_cons (x_var 1) a_nil))))
  (x_raise "NotUsable" ["word", "at"] (a_cons (x_var 0) (a_cons (x_neg (x_c (.int 1))) a_nil)))
  (xS s_nx))
def FY_need_plan : List PyData → Option Ro := runX 2 0 gx_need_plan
def g_need_plan : Fs :=
  (s_if (t_not (t_of (x_call F_is_nested [] (a_cons (x_var 1) a_nil))))
  s_no
  s_nx)
def F_need_plan : List PyData → Option Rs := runF 2 0 g_need_plan
def FX_need_plan : List PyData → Option Ro := orRx F_need_plan FY_need_plan
def g_is_line_plan : Fs :=
  (s_ret (x_call F_is_nested [] (a_cons (x_var 0) a_nil)))
def F_is_line_plan : List PyData → Option Rs := runF 1 0 g_is_line_plan
def gx_bases_from : Fsx :=
  (x_seq (x_drop (x_callX FX__need_track [] (a_cons (x_var 0) a_nil)))
  (x_seq (xS (s_ret (x_call F__built [] (a_cons (x_var 0) (a_cons (x_c (.bool false)) a_nil)))))
  (xS s_nx)))
def FY_bases_from : List PyData → Option Ro := runX 1 0 gx_bases_from
def g_bases_from : Fs :=
  (s_seq (s_drop (x_call F__need_track [] (a_cons (x_var 0) a_nil)))
  (s_seq (s_ret (x_call F__built [] (a_cons (x_var 0) (a_cons (x_c (.bool false)) a_nil))))
  s_nx))
def F_bases_from : List PyData → Option Rs := runF 1 0 g_bases_from
def FX_bases_from : List PyData → Option Ro := orRx F_bases_from FY_bases_from
def gx_turns_of : Fsx :=
  (x_seq (x_drop (x_callX FX__need_track [] (a_cons (x_var 0) a_nil)))
  (x_seq (xS (s_set 1 (x_lst a_nil)))
  (x_seq (xS (s_set 2 (x_lst (a_cons (x_tup (a_cons (x_c (.int 0)) (a_cons (x_c (.int 0)) a_nil))) a_nil))))
  (x_seq (xS (s_for (i_txt (x_var 0)) (g_name 3) [3]
  (s_seq (s_asg (g_tup [4, 5]) [4, 5] (x_pop0 2))
  (s_seq (s_if (t_of (x_bin p_eq (x_var 3) (x_c (.str "-"))))
  (s_drop (x_app 1 (x_tup (a_cons (x_var 4) (a_cons (x_var 5) a_nil)))))
  (s_seq (s_drop (x_app 2 (x_tup (a_cons (x_var 4) (a_cons (x_bin p_add (x_var 5) (x_c (.int 1))) a_nil)))))
  (s_seq (s_drop (x_app 2 (x_tup (a_cons (x_bin p_add (x_var 4) (x_c (.int 1))) (a_cons (x_var 5) a_nil)))))
  s_nx)))
  s_nx))))
  (x_seq (xS (s_ret (x_cb c_tuple (a_cons (x_var 1) a_nil))))
  (xS s_nx))))))
def FY_turns_of : List PyData → Option Ro := runX 1 5 gx_turns_of
def g_turns_of : Fs :=
  (s_seq (s_drop (x_call F__need_track [] (a_cons (x_var 0) a_nil)))
  (s_seq (s_set 1 (x_lst a_nil))
  (s_seq (s_set 2 (x_lst (a_cons (x_tup (a_cons (x_c (.int 0)) (a_cons (x_c (.int 0)) a_nil))) a_nil)))
  (s_seq (s_for (i_txt (x_var 0)) (g_name 3) [3]
  (s_seq (s_asg (g_tup [4, 5]) [4, 5] (x_pop0 2))
  (s_seq (s_if (t_of (x_bin p_eq (x_var 3) (x_c (.str "-"))))
  (s_drop (x_app 1 (x_tup (a_cons (x_var 4) (a_cons (x_var 5) a_nil)))))
  (s_seq (s_drop (x_app 2 (x_tup (a_cons (x_var 4) (a_cons (x_bin p_add (x_var 5) (x_c (.int 1))) a_nil)))))
  (s_seq (s_drop (x_app 2 (x_tup (a_cons (x_bin p_add (x_var 4) (x_c (.int 1))) (a_cons (x_var 5) a_nil)))))
  s_nx)))
  s_nx)))
  (s_seq (s_ret (x_cb c_tuple (a_cons (x_var 1) a_nil)))
  s_nx)))))
def F_turns_of : List PyData → Option Rs := runF 1 5 g_turns_of
def FX_turns_of : List PyData → Option Ro := orRx F_turns_of FY_turns_of
def gx_track_of : Fsx :=
  (x_seq (x_drop (x_callX FX_need_plan [] (a_cons (x_c (.str "bases")) (a_cons (x_var 0) a_nil))))
  (x_seq (xS (s_set 1 (x_lst a_nil)))
  (x_seq (xS (s_set 2 (x_lst (a_cons (x_var 0) a_nil))))
  (x_seq (xS (s_while (fun _ => 300) (t_of (x_bin q_gt (x_cb c_len (a_cons (x_var 2) a_nil)) (x_c (.int 0))))
  (s_seq (s_setF 3 (x_pop0 2))
  (s_seq (s_if (t_of (x_bin p_eq (x_cb c_len (a_cons (x_var 3) a_nil)) (x_c (.int 0))))
  (s_seq (s_drop (x_app 1 (x_c (.str "-"))))
  (s_seq s_ct
  s_nx))
  s_nx)
  (s_seq (s_asg (g_tup [4, 5]) [4, 5] (x_call F_ahead_and_behind [] (a_cons (x_var 3) a_nil)))
  (s_seq (s_drop (x_app 1 (x_c (.str "+"))))
  (s_seq (s_drop (x_app 2 (x_var 5)))
  (s_seq (s_drop (x_app 2 (x_var 4)))
  s_nx))))))))
  (x_seq (xS (s_fz 1 (s_ret (x_join (x_c (.str "")) (x_var 1)))))
  (xS s_nx))))))
def FY_track_of : List PyData → Option Ro := runX 1 5 gx_track_of
def g_track_of : Fs :=
  (s_seq (s_drop (x_call F_need_plan [] (a_cons (x_c (.str "bases")) (a_cons (x_var 0) a_nil))))
  (s_seq (s_set 1 (x_lst a_nil))
  (s_seq (s_set 2 (x_lst (a_cons (x_var 0) a_nil)))
  (s_seq (s_while (fun _ => 300) (t_of (x_bin q_gt (x_cb c_len (a_cons (x_var 2) a_nil)) (x_c (.int 0))))
  (s_seq (s_setF 3 (x_pop0 2))
  (s_seq (s_if (t_of (x_bin p_eq (x_cb c_len (a_cons (x_var 3) a_nil)) (x_c (.int 0))))
  (s_seq (s_drop (x_app 1 (x_c (.str "-"))))
  (s_seq s_ct
  s_nx))
  s_nx)
  (s_seq (s_asg (g_tup [4, 5]) [4, 5] (x_call F_ahead_and_behind [] (a_cons (x_var 3) a_nil)))
  (s_seq (s_drop (x_app 1 (x_c (.str "+"))))
  (s_seq (s_drop (x_app 2 (x_var 5)))
  (s_seq (s_drop (x_app 2 (x_var 4)))
  s_nx)))))))
  (s_seq (s_fz 1 (s_ret (x_join (x_c (.str "")) (x_var 1))))
  s_nx)))))
def F_track_of : List PyData → Option Rs := runF 1 5 g_track_of
def FX_track_of : List PyData → Option Ro := orRx F_track_of FY_track_of
def gx__need_changes : Fsx :=
  (x_seq (x_drop (x_callX FX_need_plan [] (a_cons (x_c (.str "bases")) (a_cons (x_var 0) a_nil))))
  (x_seq (x_ifS (t_of (x_bin p_eq (x_cb c_len (a_cons (x_var 0) a_nil)) (x_c (.int 0))))
  (x_raise "NotUsable" ["word", "at"] (a_cons (x_c (.str "bases")) (a_cons (x_neg (x_c (.int 1))) a_nil)))
  (xS s_nx))
  (xS s_nx)))
def FY__need_changes : List PyData → Option Ro := runX 1 0 gx__need_changes
def g__need_changes : Fs :=
  (s_seq (s_drop (x_call F_need_plan [] (a_cons (x_c (.str "bases")) (a_cons (x_var 0) a_nil))))
  (s_seq (s_if (t_of (x_bin p_eq (x_cb c_len (a_cons (x_var 0) a_nil)) (x_c (.int 0))))
  s_no
  s_nx)
  s_nx))
def F__need_changes : List PyData → Option Rs := runF 1 0 g__need_changes
def FX__need_changes : List PyData → Option Ro := orRx F__need_changes FY__need_changes
def gx_joined_plans : Fsx :=
  (x_seq (x_drop (x_callX FX_need_plan [] (a_cons (x_c (.str "one")) (a_cons (x_var 0) a_nil))))
  (x_seq (x_drop (x_callX FX_need_plan [] (a_cons (x_c (.str "other")) (a_cons (x_var 1) a_nil))))
  (x_seq (xS (s_ret (x_call F_put_beside [] (a_cons (x_var 0) (a_cons (x_var 1) a_nil)))))
  (xS s_nx))))
def FY_joined_plans : List PyData → Option Ro := runX 2 0 gx_joined_plans
def g_joined_plans : Fs :=
  (s_seq (s_drop (x_call F_need_plan [] (a_cons (x_c (.str "one")) (a_cons (x_var 0) a_nil))))
  (s_seq (s_drop (x_call F_need_plan [] (a_cons (x_c (.str "other")) (a_cons (x_var 1) a_nil))))
  (s_seq (s_ret (x_call F_put_beside [] (a_cons (x_var 0) (a_cons (x_var 1) a_nil))))
  s_nx)))
def F_joined_plans : List PyData → Option Rs := runF 2 0 g_joined_plans
def FX_joined_plans : List PyData → Option Ro := orRx F_joined_plans FY_joined_plans
def gx_line_reads : Fsx :=
  (x_seq (x_drop (x_callX FX_need_plan [] (a_cons (x_c (.str "bases")) (a_cons (x_var 0) a_nil))))
  (x_seq (xS (s_set 1 (x_lst (a_cons (x_c (.int 0)) a_nil))))
  (x_seq (xS (s_for (i_seq (x_var 0)) (g_name 2) [2]
  (s_drop (x_app 1 (x_bin p_add (x_ix (x_var 1) (x_var 2)) (x_c (.int 1)))))))
  (x_seq (xS (s_ret (x_cb c_tuple (a_cons (x_var 1) a_nil))))
  (xS s_nx)))))
def FY_line_reads : List PyData → Option Ro := runX 1 2 gx_line_reads
def g_line_reads : Fs :=
  (s_seq (s_drop (x_call F_need_plan [] (a_cons (x_c (.str "bases")) (a_cons (x_var 0) a_nil))))
  (s_seq (s_set 1 (x_lst (a_cons (x_c (.int 0)) a_nil)))
  (s_seq (s_for (i_seq (x_var 0)) (g_name 2) [2]
  (s_drop (x_app 1 (x_bin p_add (x_ix (x_var 1) (x_var 2)) (x_c (.int 1))))))
  (s_seq (s_ret (x_cb c_tuple (a_cons (x_var 1) a_nil)))
  s_nx))))
def F_line_reads : List PyData → Option Rs := runF 1 2 g_line_reads
def FX_line_reads : List PyData → Option Ro := orRx F_line_reads FY_line_reads
def gx_line_writes : Fsx :=
  (x_seq (x_drop (x_callX FX_need_plan [] (a_cons (x_c (.str "bases")) (a_cons (x_var 0) a_nil))))
  (x_seq (xS (s_set 1 (x_lc (i_seq (x_var 0)) (g_name 5) t_yes (x_c (.int 0)) [5])))
  (x_seq (xS (s_for (i_enumF (x_var 0)) (g_tup [2, 3]) [2, 3]
  (s_for (i_rng2 (x_var 3) (x_var 2)) (g_name 4) [4]
  (s_augI (fun i j => i + j) 1 (x_var 4) (x_c (.int 1))))))
  (x_seq (xS (s_ret (x_cb c_tuple (a_cons (x_var 1) a_nil))))
  (xS s_nx)))))
def FY_line_writes : List PyData → Option Ro := runX 1 5 gx_line_writes
def g_line_writes : Fs :=
  (s_seq (s_drop (x_call F_need_plan [] (a_cons (x_c (.str "bases")) (a_cons (x_var 0) a_nil))))
  (s_seq (s_set 1 (x_lc (i_seq (x_var 0)) (g_name 5) t_yes (x_c (.int 0)) [5]))
  (s_seq (s_for (i_enumF (x_var 0)) (g_tup [2, 3]) [2, 3]
  (s_for (i_rng2 (x_var 3) (x_var 2)) (g_name 4) [4]
  (s_augI (fun i j => i + j) 1 (x_var 4) (x_c (.int 1)))))
  (s_seq (s_ret (x_cb c_tuple (a_cons (x_var 1) a_nil)))
  s_nx))))
def F_line_writes : List PyData → Option Rs := runF 1 5 g_line_writes
def FX_line_writes : List PyData → Option Ro := orRx F_line_writes FY_line_writes
def gx_mirrored : Fsx :=
  (x_ret (x_upX (ax_cons (x_callX FX_track_of [] (a_cons (x_var 0) a_nil)) (xA (a_cons (x_c (.bool true)) a_nil))) (xE (x_call F__built [] (faOf (ax_cons (x_callX FX_track_of [] (a_cons (x_var 0) a_nil)) (xA (a_cons (x_c (.bool true)) a_nil))))))))
def FY_mirrored : List PyData → Option Ro := runX 1 0 gx_mirrored
def g_mirrored : Fs :=
  (s_ret (x_call F__built [] (a_cons (x_call F_track_of [] (a_cons (x_var 0) a_nil)) (a_cons (x_c (.bool true)) a_nil))))
def F_mirrored : List PyData → Option Rs := runF 1 0 g_mirrored
def FX_mirrored : List PyData → Option Ro := orRx F_mirrored FY_mirrored
def gx_cut_of : Fsx :=
  (x_seq (x_drop (x_callX FX__need_changes [] (a_cons (x_var 0) a_nil)))
  (x_seq (xS (s_ret (x_call F_last_full [] (a_cons (x_var 0) a_nil))))
  (xS s_nx)))
def FY_cut_of : List PyData → Option Ro := runX 1 0 gx_cut_of
def g_cut_of : Fs :=
  (s_seq (s_drop (x_call F__need_changes [] (a_cons (x_var 0) a_nil)))
  (s_seq (s_ret (x_call F_last_full [] (a_cons (x_var 0) a_nil)))
  s_nx))
def F_cut_of : List PyData → Option Rs := runF 1 0 g_cut_of
def FX_cut_of : List PyData → Option Ro := orRx F_cut_of FY_cut_of
def gx_parts_of : Fsx :=
  (x_seq (x_drop (x_callX FX__need_changes [] (a_cons (x_var 0) a_nil)))
  (x_seq (xS (s_ret (x_call F_ahead_and_behind [] (a_cons (x_var 0) a_nil))))
  (xS s_nx)))
def FY_parts_of : List PyData → Option Ro := runX 1 0 gx_parts_of
def g_parts_of : Fs :=
  (s_seq (s_drop (x_call F__need_changes [] (a_cons (x_var 0) a_nil)))
  (s_seq (s_ret (x_call F_ahead_and_behind [] (a_cons (x_var 0) a_nil)))
  s_nx))
def F_parts_of : List PyData → Option Rs := runF 1 0 g_parts_of
def FX_parts_of : List PyData → Option Ro := orRx F_parts_of FY_parts_of
def g__law_ask_two : Fs :=
  (noX (x_try (x_ret (x_tupX (ax_cons (xE (x_c (.str "is"))) (ax_cons (x_callX FX_joined_plans [] (a_cons (x_var 0) (a_cons (x_var 1) a_nil))) (xA a_nil))))) (tabF xtab "NotUsable") 2 (fun k a dd =>
  (s_ret (x_tup (a_cons (x_c (.str "not")) (a_cons (x_fld xok k a dd 2 "word") (a_cons (x_fld xok k a dd 2 "at") a_nil))))))))
def F__law_ask_two : List PyData → Option Rs := runF 2 1 g__law_ask_two
def g__law_ask : Fs :=
  (noX (x_try (x_seq (x_ifS (t_of (x_bin p_eq (x_var 0) (x_c (.int 0))))
  (x_ret (x_tupX (ax_cons (xE (x_c (.str "is"))) (ax_cons (x_callX FX_track_of [] (a_cons (x_var 1) a_nil)) (xA a_nil)))))
  (xS s_nx))
  (x_seq (x_ifS (t_of (x_bin p_eq (x_var 0) (x_c (.int 1))))
  (x_ret (x_tupX (ax_cons (xE (x_c (.str "is"))) (ax_cons (x_callX FX_mirrored [] (a_cons (x_var 1) a_nil)) (xA a_nil)))))
  (xS s_nx))
  (x_seq (x_ifS (t_of (x_bin p_eq (x_var 0) (x_c (.int 2))))
  (x_ret (x_tupX (ax_cons (xE (x_c (.str "is"))) (ax_cons (x_callX FX_line_reads [] (a_cons (x_var 1) a_nil)) (xA a_nil)))))
  (xS s_nx))
  (x_seq (x_ifS (t_of (x_bin p_eq (x_var 0) (x_c (.int 3))))
  (x_ret (x_tupX (ax_cons (xE (x_c (.str "is"))) (ax_cons (x_callX FX_line_writes [] (a_cons (x_var 1) a_nil)) (xA a_nil)))))
  (xS s_nx))
  (x_seq (x_ifS (t_of (x_bin p_eq (x_var 0) (x_c (.int 4))))
  (x_ret (x_tupX (ax_cons (xE (x_c (.str "is"))) (ax_cons (x_callX FX_cut_of [] (a_cons (x_var 1) a_nil)) (xA a_nil)))))
  (xS s_nx))
  (x_seq (x_ifS (t_of (x_bin p_eq (x_var 0) (x_c (.int 5))))
  (x_ret (x_tupX (ax_cons (xE (x_c (.str "is"))) (ax_cons (x_callX FX_parts_of [] (a_cons (x_var 1) a_nil)) (xA a_nil)))))
  (xS s_nx))
  (x_seq (x_ifS (t_of (x_bin p_eq (x_var 0) (x_c (.int 6))))
  (x_ret (x_tupX (ax_cons (xE (x_c (.str "is"))) (ax_cons (x_callX FX_bases_from [] (a_cons (x_var 1) a_nil)) (xA a_nil)))))
  (xS s_nx))
  (x_seq (x_ret (x_tupX (ax_cons (xE (x_c (.str "is"))) (ax_cons (x_callX FX_turns_of [] (a_cons (x_var 1) a_nil)) (xA a_nil)))))
  (xS s_nx))))))))) (tabF xtab "NotUsable") 2 (fun k a dd =>
  (s_ret (x_tup (a_cons (x_c (.str "not")) (a_cons (x_fld xok k a dd 2 "word") (a_cons (x_fld xok k a dd 2 "at") a_nil))))))))
def F__law_ask : List PyData → Option Rs := runF 2 1 g__law_ask
def R__law_same : Nat → List PyData → Option Rs
  | 0 => fun _ => none
  | N + 1 => runF 2 2 (s_seq (s_if (t_of (x_isi .tuple (x_var 1)))
  (s_seq (s_if (t_or (t_not (t_of (x_isi .tuple (x_var 0)))) (t_of (x_bin p_ne (x_cb c_len (a_cons (x_var 0) a_nil)) (x_cb c_len (a_cons (x_var 1) a_nil)))))
  (s_ret (x_c (.bool false)))
  s_nx)
  (s_seq (s_for (i_zip (x_var 0) (x_var 1)) (g_tup [2, 3]) [2, 3]
  (s_if (t_not (t_of (x_call (R__law_same N) [] (a_cons (x_var 2) (a_cons (x_var 3) a_nil)))))
  (s_ret (x_c (.bool false)))
  s_nx))
  (s_seq (s_ret (x_c (.bool true)))
  s_nx)))
  s_nx)
  (s_seq (s_if (t_of (x_isi .bool (x_var 1)))
  (s_ret (x_and (x_isi .bool (x_var 0)) (x_bin p_eq (x_var 0) (x_var 1))))
  s_nx)
  (s_seq (s_if (t_of (x_isi .int (x_var 1)))
  (s_ret (x_and (x_isi .int (x_var 0)) (x_and (x_not (x_isi .bool (x_var 0))) (x_bin p_eq (x_var 0) (x_var 1)))))
  s_nx)
  (s_seq (s_ret (x_and (x_isi .str (x_var 0)) (x_and (x_isi .str (x_var 1)) (x_bin p_eq (x_var 0) (x_var 1)))))
  s_nx))))
theorem len__law_same : ∀ N ds, (R__law_same N ds).isSome = true → ds.length = 2
  | 0 => fun _ h => nomatch h
  | N + 1 => runF_len
def F__law_same : List PyData → Option Rs := R__law_same 24
def g__law_plan_holds : Fs :=
  (s_seq (s_setF 1 (x_cb c_len (a_cons (x_var 0) a_nil)))
  (s_seq (s_setF 2 (x_call F__law_reads [] (a_cons (x_var 0) a_nil)))
  (s_seq (s_setF 3 (x_call F__law_writes [] (a_cons (x_var 0) a_nil)))
  (s_seq (s_setF 4 (x_cb c_tuple (a_cons (x_lc (i_rng1 (x_bin p_add (x_var 1) (x_c (.int 1)))) (g_name 10) t_yes (x_tup (a_cons (x_ix (x_bin p_add (x_var 3) (x_lst (a_cons (x_c (.int 0)) a_nil))) (x_var 10)) (a_cons (x_ix (x_var 2) (x_var 10)) a_nil))) [10]) a_nil)))
  (s_seq (s_setF 5 (x_call F_track_of [] (a_cons (x_var 0) a_nil)))
  (s_seq (s_if (t_or (t_not (t_of (x_call F__law_same [] (a_cons (x_call F_is_line_plan [] (a_cons (x_var 0) a_nil)) (a_cons (x_c (.bool true)) a_nil))))) (t_or (t_not (t_of (x_isi .str (x_var 5)))) (t_of (x_bin p_ne (x_call F__law_buds [] (a_cons (x_var 5) a_nil)) (x_var 4)))))
  (s_ret (x_c (.bool false)))
  s_nx)
  (s_seq (s_if (t_or (t_not (t_of (x_call F__law_same [] (a_cons (x_call F_turns_of [] (a_cons (x_var 5) a_nil)) (a_cons (x_var 4) a_nil))))) (t_not (t_of (x_call F__law_same [] (a_cons (x_call F_bases_from [] (a_cons (x_var 5) a_nil)) (a_cons (x_var 0) a_nil))))))
  (s_ret (x_c (.bool false)))
  s_nx)
  (s_seq (s_setF 6 (x_call F__law_by_reads [] (a_cons (x_bin p_add (x_lst (a_cons (x_c (.int 0)) a_nil)) (x_lc (i_rng2 (x_c (.int 1)) (x_bin p_add (x_var 1) (x_c (.int 1)))) (g_name 10) t_yes (x_ix (x_var 3) (x_bin p_sub (x_var 1) (x_var 10))) [10])) a_nil)))
  (s_seq (s_if (t_or (t_not (t_of (x_call F__law_same [] (a_cons (x_call F_mirrored [] (a_cons (x_var 0) a_nil)) (a_cons (x_var 6) a_nil))))) (t_not (t_of (x_call F__law_same [] (a_cons (x_call F_mirrored [] (a_cons (x_var 6) a_nil)) (a_cons (x_var 0) a_nil))))))
  (s_ret (x_c (.bool false)))
  s_nx)
  (s_seq (s_if (t_or (t_not (t_of (x_call F__law_same [] (a_cons (x_call F_line_reads [] (a_cons (x_var 0) a_nil)) (a_cons (x_cb c_tuple (a_cons (x_var 2) a_nil)) a_nil))))) (t_not (t_of (x_call F__law_same [] (a_cons (x_call F_line_writes [] (a_cons (x_var 0) a_nil)) (a_cons (x_cb c_tuple (a_cons (x_var 3) a_nil)) a_nil))))))
  (s_ret (x_c (.bool false)))
  s_nx)
  (s_seq (s_if (t_of (x_bin p_eq (x_var 1) (x_c (.int 0))))
  (s_ret (x_and (x_bin p_eq (x_call F__law_ask [] (a_cons (x_c (.int 4)) (a_cons (x_tup a_nil) a_nil))) (x_tup (a_cons (x_c (.str "not")) (a_cons (x_c (.str "bases")) (a_cons (x_neg (x_c (.int 1))) a_nil))))) (x_bin p_eq (x_call F__law_ask [] (a_cons (x_c (.int 5)) (a_cons (x_tup a_nil) a_nil))) (x_tup (a_cons (x_c (.str "not")) (a_cons (x_c (.str "bases")) (a_cons (x_neg (x_c (.int 1))) a_nil)))))))
  s_nx)
  (s_seq (s_setF 7 (x_cb c_maxB (a_cons (x_lc (i_rng2 (x_c (.int 1)) (x_bin p_add (x_var 1) (x_c (.int 1)))) (g_name 11) (t_of (x_bin p_eq (x_ix (x_var 2) (x_var 11)) (x_c (.int 1)))) (x_var 11) [11]) a_nil)))
  (s_seq (s_setF 8 (x_call F__law_by_reads [] (a_cons (x_sl (x_var 2) o_no (o_at (x_var 7))) a_nil)))
  (s_seq (s_setF 9 (x_call F__law_by_reads [] (a_cons (x_bin p_add (x_lst (a_cons (x_c (.int 0)) a_nil)) (x_lc (i_seq (x_sl (x_var 2) (o_at (x_bin p_add (x_var 7) (x_c (.int 1)))) o_no)) (g_name 12) t_yes (x_bin p_sub (x_var 12) (x_c (.int 1))) [12])) a_nil)))
  (s_seq (s_if (t_or (t_not (t_of (x_call F__law_same [] (a_cons (x_call F_cut_of [] (a_cons (x_var 0) a_nil)) (a_cons (x_var 7) a_nil))))) (t_not (t_of (x_call F__law_same [] (a_cons (x_call F_parts_of [] (a_cons (x_var 0) a_nil)) (a_cons (x_tup (a_cons (x_var 8) (a_cons (x_var 9) a_nil))) a_nil))))))
  (s_ret (x_c (.bool false)))
  s_nx)
  (s_seq (s_if (t_or (t_not (t_of (x_call F__law_same [] (a_cons (x_callK F_cut_of [0] a_nil (a_cons (x_var 0) a_nil)) (a_cons (x_var 7) a_nil))))) (t_not (t_of (x_call F__law_same [] (a_cons (x_callK F_parts_of [0] a_nil (a_cons (x_var 0) a_nil)) (a_cons (x_tup (a_cons (x_var 8) (a_cons (x_var 9) a_nil))) a_nil))))))
  (s_ret (x_c (.bool false)))
  s_nx)
  (s_seq (s_if (t_not (t_of (x_call F__law_same [] (a_cons (x_callK F_line_reads [0] a_nil (a_cons (x_var 0) a_nil)) (a_cons (x_cb c_tuple (a_cons (x_var 2) a_nil)) a_nil)))))
  (s_ret (x_c (.bool false)))
  s_nx)
  (s_seq (s_if (t_not (t_of (x_call F__law_same [] (a_cons (x_callK F_line_writes [0] a_nil (a_cons (x_var 0) a_nil)) (a_cons (x_cb c_tuple (a_cons (x_var 3) a_nil)) a_nil)))))
  (s_ret (x_c (.bool false)))
  s_nx)
  (s_seq (s_ret (x_call F__law_same [] (a_cons (x_call F_joined_plans [] (a_cons (x_var 8) (a_cons (x_var 9) a_nil))) (a_cons (x_var 0) a_nil))))
  s_nx)))))))))))))))))))
def F__law_plan_holds : List PyData → Option Rs := runF 1 12 g__law_plan_holds
def g__law_sign_holds : Fs :=
  (s_seq (s_setF 1 (x_call F__law_buds [] (a_cons (x_var 0) a_nil)))
  (s_seq (s_if (t_not (t_of (x_call F__law_same [] (a_cons (x_call F_is_track [] (a_cons (x_var 0) a_nil)) (a_cons (x_bin p_isnot (x_var 1) (x_c .none)) a_nil)))))
  (s_ret (x_c (.bool false)))
  s_nx)
  (s_seq (s_if (t_of (x_bin p_is (x_var 1) (x_c .none)))
  (s_ret (x_and (x_bin p_eq (x_call F__law_ask [] (a_cons (x_c (.int 6)) (a_cons (x_var 0) a_nil))) (x_tup (a_cons (x_c (.str "not")) (a_cons (x_c (.str "track")) (a_cons (x_neg (x_c (.int 1))) a_nil))))) (x_bin p_eq (x_call F__law_ask [] (a_cons (x_c (.int 7)) (a_cons (x_var 0) a_nil))) (x_tup (a_cons (x_c (.str "not")) (a_cons (x_c (.str "track")) (a_cons (x_neg (x_c (.int 1))) a_nil)))))))
  s_nx)
  (s_seq (s_setF 2 (x_call F__law_by_reads [] (a_cons (x_lc (i_seq (x_var 1)) (g_name 3) t_yes (x_ix (x_var 3) (x_c (.int 1))) [3]) a_nil)))
  (s_seq (s_if (t_or (t_not (t_of (x_call F__law_same [] (a_cons (x_call F__law_ask [] (a_cons (x_c (.int 6)) (a_cons (x_var 0) a_nil))) (a_cons (x_tup (a_cons (x_c (.str "is")) (a_cons (x_var 2) a_nil))) a_nil))))) (t_not (t_of (x_call F__law_same [] (a_cons (x_call F__law_ask [] (a_cons (x_c (.int 7)) (a_cons (x_var 0) a_nil))) (a_cons (x_tup (a_cons (x_c (.str "is")) (a_cons (x_var 1) a_nil))) a_nil))))))
  (s_ret (x_c (.bool false)))
  s_nx)
  (s_seq (s_ret (x_call F__law_same [] (a_cons (x_call F_track_of [] (a_cons (x_var 2) a_nil)) (a_cons (x_var 0) a_nil))))
  s_nx))))))
def F__law_sign_holds : List PyData → Option Rs := runF 1 3 g__law_sign_holds
def g__law_refused : Fs :=
  (s_seq (s_setF 2 (x_cb c_len (a_cons (x_var 0) a_nil)))
  (s_seq (s_setF 3 (x_lst (a_cons (x_cb c_list (a_cons (x_var 0) a_nil)) (a_cons (x_c .none) (a_cons (x_c (.str "-")) (a_cons (x_c (.int 7)) (a_cons (x_bin p_add (x_var 0) (x_tup (a_cons (x_c (.bool true)) a_nil))) (a_cons (x_bin p_add (x_var 0) (x_tup (a_cons (x_neg (x_c (.int 1))) a_nil))) (a_cons (x_bin p_add (x_var 0) (x_tup (a_cons (x_bin p_add (x_var 2) (x_c (.int 1))) a_nil))) (a_cons (x_bin p_add (x_var 0) (x_tup (a_cons (x_c (.str "0")) a_nil))) (a_cons (x_tup (a_cons (x_tup (a_cons (x_c (.int 0)) a_nil)) a_nil)) (a_cons (x_bin p_add (x_tup (a_cons (x_c (.bool false)) a_nil)) (x_sl (x_var 0) (o_at (x_c (.int 1))) o_no)) (a_cons (x_bin p_add (x_var 0) (x_tup (a_cons (x_c .none) a_nil))) (a_cons (x_tup (a_cons (x_c (.int 0)) (a_cons (x_c (.bool true)) (a_cons (x_c (.int 0)) a_nil)))) (a_cons (x_tup (a_cons (x_c (.int 0)) (a_cons (x_c (.int 1)) (a_cons (x_c (.bool false)) (a_cons (x_c (.int 3)) a_nil))))) a_nil)))))))))))))))
  (s_seq (s_for (i_seq (x_var 3)) (g_name 4) [4]
  (s_if (t_not (t_of (x_call F__law_same [] (a_cons (x_call F_is_line_plan [] (a_cons (x_var 4) a_nil)) (a_cons (x_c (.bool false)) a_nil)))))
  (s_ret (x_c (.bool false)))
  s_nx))
  (s_seq (s_for (i_rng1 (x_c (.int 6))) (g_name 5) [5]
  (s_if (t_of (x_bin p_ne (x_call F__law_ask [] (a_cons (x_var 5) (a_cons (x_ix (x_var 3) (x_bin p_mod (x_cb c_int (a_cons (x_bin p_add (x_var 1) (x_var 5)) a_nil)) (x_cb c_len (a_cons (x_var 3) a_nil)))) a_nil))) (x_tup (a_cons (x_c (.str "not")) (a_cons (x_c (.str "bases")) (a_cons (x_neg (x_c (.int 1))) a_nil))))))
  (s_ret (x_c (.bool false)))
  s_nx))
  (s_seq (s_setF 6 (x_ix (x_var 3) (x_bin p_mod (x_cb c_int (a_cons (x_bin p_add (x_var 1) (x_c (.int 6))) a_nil)) (x_cb c_len (a_cons (x_var 3) a_nil)))))
  (s_seq (s_if (t_or (t_of (x_bin p_ne (x_call F__law_ask_two [] (a_cons (x_var 6) (a_cons (x_var 0) a_nil))) (x_tup (a_cons (x_c (.str "not")) (a_cons (x_c (.str "one")) (a_cons (x_neg (x_c (.int 1))) a_nil)))))) (t_of (x_bin p_ne (x_call F__law_ask_two [] (a_cons (x_var 6) (a_cons (x_var 6) a_nil))) (x_tup (a_cons (x_c (.str "not")) (a_cons (x_c (.str "one")) (a_cons (x_neg (x_c (.int 1))) a_nil)))))))
  (s_ret (x_c (.bool false)))
  s_nx)
  (s_seq (s_if (t_of (x_bin p_ne (x_call F__law_ask_two [] (a_cons (x_var 0) (a_cons (x_var 6) a_nil))) (x_tup (a_cons (x_c (.str "not")) (a_cons (x_c (.str "other")) (a_cons (x_neg (x_c (.int 1))) a_nil))))))
  (s_ret (x_c (.bool false)))
  s_nx)
  (s_seq (s_for (i_seq (x_tup (a_cons (x_tup (a_cons (x_c (.str "-")) a_nil)) (a_cons (x_tup a_nil) (a_cons (x_c .none) (a_cons (x_c (.int 5)) (a_cons (x_c (.bool true)) (a_cons (x_lst (a_cons (x_c (.str "+--")) a_nil)) (a_cons (x_tup (a_cons (x_c (.str "+")) (a_cons (x_c (.str "-")) (a_cons (x_c (.str "-")) a_nil)))) a_nil))))))))) (g_name 4) [4]
  (s_seq (s_if (t_or (t_not (t_of (x_call F__law_same [] (a_cons (x_call F_is_track [] (a_cons (x_var 4) a_nil)) (a_cons (x_c (.bool false)) a_nil))))) (t_of (x_bin p_ne (x_call F__law_ask [] (a_cons (x_c (.int 6)) (a_cons (x_var 4) a_nil))) (x_tup (a_cons (x_c (.str "not")) (a_cons (x_c (.str "track")) (a_cons (x_neg (x_c (.int 1))) a_nil)))))))
  (s_ret (x_c (.bool false)))
  s_nx)
  (s_seq (s_if (t_of (x_bin p_ne (x_call F__law_ask [] (a_cons (x_c (.int 7)) (a_cons (x_var 4) a_nil))) (x_tup (a_cons (x_c (.str "not")) (a_cons (x_c (.str "track")) (a_cons (x_neg (x_c (.int 1))) a_nil))))))
  (s_ret (x_c (.bool false)))
  s_nx)
  s_nx)))
  (s_seq (s_ret (x_bin p_eq (x_call F__law_ask [] (a_cons (x_c (.int 7)) (a_cons (x_tup (a_cons (x_tup (a_cons (x_c (.int 0)) (a_cons (x_c (.int 0)) a_nil))) a_nil)) a_nil))) (x_tup (a_cons (x_c (.str "not")) (a_cons (x_c (.str "track")) (a_cons (x_neg (x_c (.int 1))) a_nil))))))
  s_nx)))))))))
def F__law_refused : List PyData → Option Rs := runF 2 5 g__law_refused
def g__law_far_told : Fs :=
  (s_seq (s_setF 1 (x_callM F__law_plan [] (a_cons (x_var 0) (a_cons (x_c (.int 45)) a_nil))))
  (s_seq (s_setF 2 (x_bin p_adS (x_bin p_mulS (x_c (.str "+-")) (x_callM F__law_take [] (a_cons (x_var 0) (a_cons (x_c (.int 30)) a_nil)))) (x_bin p_mulS (x_c (.str "+")) (x_c (.int 30)))))
  (s_seq (s_if (t_or (t_not (t_of (x_call F__law_same [] (a_cons (x_call F_is_line_plan [] (a_cons (x_var 1) a_nil)) (a_cons (x_c (.bool true)) a_nil))))) (t_not (t_of (x_call F__law_same [] (a_cons (x_call F_is_line_plan [] (a_cons (x_bin p_add (x_var 1) (x_tup (a_cons (x_c (.int 46)) a_nil))) a_nil)) (a_cons (x_c (.bool false)) a_nil))))))
  (s_ret (x_c (.bool false)))
  s_nx)
  (s_seq (s_if (t_not (t_of (x_call F__law_same [] (a_cons (x_call F_is_track [] (a_cons (x_bin p_adS (x_var 2) (x_bin p_mulS (x_c (.str "-")) (x_c (.int 31)))) a_nil)) (a_cons (x_c (.bool true)) a_nil)))))
  (s_ret (x_c (.bool false)))
  s_nx)
  (s_seq (s_ret (x_call F__law_same [] (a_cons (x_call F_is_track [] (a_cons (x_bin p_adS (x_var 2) (x_bin p_mulS (x_c (.str "-")) (x_c (.int 30)))) a_nil)) (a_cons (x_c (.bool false)) a_nil))))
  s_nx)))))
def F__law_far_told : List PyData → List PyData → Option (Rs × List PyData) := runM 0 2 g__law_far_told
def g__law_bent_holds : Fs :=
  (s_seq (s_setF 2 (x_callM F__law_take [] (a_cons (x_var 0) (a_cons (x_cb c_len (a_cons (x_var 1) a_nil)) a_nil))))
  (s_seq (s_setF 3 (x_bin p_add (x_bin p_add (x_sl (x_var 1) o_no (o_at (x_var 2))) (x_tup (a_cons (x_bin p_sub (x_callM F__law_take [] (a_cons (x_var 0) (a_cons (x_bin p_add (x_var 2) (x_c (.int 3))) a_nil))) (x_c (.int 1))) a_nil))) (x_sl (x_var 1) (o_at (x_bin p_add (x_var 2) (x_c (.int 1)))) o_no)))
  (s_seq (s_if (t_of (x_call F__law_is_plan [] (a_cons (x_var 3) a_nil)))
  (s_ret (x_call F__law_plan_holds [] (a_cons (x_var 3) a_nil)))
  s_nx)
  (s_seq (s_if (t_not (t_of (x_call F__law_same [] (a_cons (x_call F_is_line_plan [] (a_cons (x_var 3) a_nil)) (a_cons (x_c (.bool false)) a_nil)))))
  (s_ret (x_c (.bool false)))
  s_nx)
  (s_seq (s_ret (x_bin p_eq (x_lc (i_rng1 (x_c (.int 6))) (g_name 4) (t_of (x_bin p_ne (x_call F__law_ask [] (a_cons (x_var 4) (a_cons (x_var 3) a_nil))) (x_tup (a_cons (x_c (.str "not")) (a_cons (x_c (.str "bases")) (a_cons (x_neg (x_c (.int 1))) a_nil)))))) (x_var 4) [4]) (x_lst a_nil)))
  s_nx)))))
def F__law_bent_holds : List PyData → List PyData → Option (Rs × List PyData) := runM 1 3 g__law_bent_holds
def g_law : Fs :=
  (s_seq (s_set 1 (x_call F__law_hand [] (a_cons (x_var 0) a_nil)))
  (s_seq (s_setF 2 (x_callM F__law_take [] (a_cons (x_var 1) (a_cons (x_c (.int 10)) a_nil))))
  (s_seq (s_setF 3 (x_callM F__law_take [] (a_cons (x_var 1) (a_cons (x_c (.int 8)) a_nil))))
  (s_seq (s_if (t_of (x_bin p_eq (x_var 3) (x_c (.int 1))))
  (s_setF 2 (x_c (.int 20)))
  s_nx)
  (s_seq (s_if (t_of (x_bin p_eq (x_var 3) (x_c (.int 2))))
  (s_setF 2 (x_bin p_add (x_c (.int 10)) (x_callM F__law_take [] (a_cons (x_var 1) (a_cons (x_c (.int 9)) a_nil)))))
  s_nx)
  (s_seq (s_setF 4 (x_callM F__law_plan [] (a_cons (x_var 1) (a_cons (x_var 2) a_nil))))
  (s_seq (s_setF 5 (x_callM F__law_plan [] (a_cons (x_var 1) (a_cons (x_callM F__law_take [] (a_cons (x_var 1) (a_cons (x_c (.int 7)) a_nil))) a_nil))))
  (s_seq (s_if (t_or (t_not (t_of (x_call F__law_plan_holds [] (a_cons (x_var 4) a_nil)))) (t_not (t_of (x_call F__law_plan_holds [] (a_cons (x_var 5) a_nil)))))
  (s_ret (x_c (.bool false)))
  s_nx)
  (s_seq (s_setF 6 (x_sl (x_var 4) o_no (o_at (x_c (.int 13)))))
  (s_seq (s_setF 7 (x_call F__law_by_reads [] (a_cons (x_bin p_add (x_bin p_add (x_call F__law_reads [] (a_cons (x_var 5) a_nil)) (x_lst (a_cons (x_c (.int 1)) a_nil))) (x_lc (i_seq (x_sl (x_call F__law_reads [] (a_cons (x_var 6) a_nil)) (o_at (x_c (.int 1))) o_no)) (g_name 9) t_yes (x_bin p_add (x_var 9) (x_c (.int 1))) [9])) a_nil)))
  (s_seq (s_if (t_not (t_of (x_call F__law_same [] (a_cons (x_call F_joined_plans [] (a_cons (x_var 5) (a_cons (x_var 6) a_nil))) (a_cons (x_var 7) a_nil)))))
  (s_ret (x_c (.bool false)))
  s_nx)
  (s_seq (s_if (t_not (t_of (x_call F__law_same [] (a_cons (x_callK F_joined_plans [1, 0] a_nil (a_cons (x_var 6) (a_cons (x_var 5) a_nil))) (a_cons (x_var 7) a_nil)))))
  (s_ret (x_c (.bool false)))
  s_nx)
  (s_seq (s_setF 8 (x_callM F__law_sign [] (a_cons (x_var 1) (a_cons (x_callM F__law_take [] (a_cons (x_var 1) (a_cons (x_c (.int 10)) a_nil))) a_nil))))
  (s_seq (s_if (t_or (t_not (t_of (x_call F__law_sign_holds [] (a_cons (x_var 8) a_nil)))) (t_or (t_not (t_of (x_call F__law_sign_holds [] (a_cons (x_callM F__law_spoilt [] (a_cons (x_var 1) (a_cons (x_var 8) a_nil))) a_nil)))) (t_not (t_of (x_call F__law_sign_holds [] (a_cons (x_c (.str "")) a_nil))))))
  (s_ret (x_c (.bool false)))
  s_nx)
  (s_seq (s_if (t_not (t_of (x_call F__law_sign_holds [] (a_cons (x_bin p_adS (x_var 8) (x_c (.str " "))) a_nil))))
  (s_ret (x_c (.bool false)))
  s_nx)
  (s_seq (s_if (t_and (t_of (x_bin q_gt (x_var 2) (x_c (.int 0)))) (t_not (t_of (x_callM F__law_bent_holds [] (a_cons (x_var 1) (a_cons (x_var 4) a_nil))))))
  (s_ret (x_c (.bool false)))
  s_nx)
  (s_seq (s_if (t_not (t_of (x_call F__law_refused [] (a_cons (x_var 5) (a_cons (x_callM F__law_take [] (a_cons (x_var 1) (a_cons (x_c (.int 11)) a_nil))) a_nil)))))
  (s_ret (x_c (.bool false)))
  s_nx)
  (s_seq (s_if (t_and (t_of (x_bin p_eq (x_var 3) (x_c (.int 3)))) (t_not (t_of (x_callM F__law_far_told [] (a_cons (x_var 1) a_nil)))))
  (s_ret (x_c (.bool false)))
  s_nx)
  (s_seq (s_if (t_not (t_of (x_call F__law_same [] (a_cons (x_callK F_track_of [0] a_nil (a_cons (x_var 4) a_nil)) (a_cons (x_call F_track_of [] (a_cons (x_var 4) a_nil)) a_nil)))))
  (s_ret (x_c (.bool false)))
  s_nx)
  (s_seq (s_if (t_not (t_of (x_call F__law_same [] (a_cons (x_callK F_turns_of [0] a_nil (a_cons (x_var 8) a_nil)) (a_cons (x_call F_turns_of [] (a_cons (x_var 8) a_nil)) a_nil)))))
  (s_ret (x_c (.bool false)))
  s_nx)
  (s_seq (s_if (t_or (t_not (t_of (x_call F__law_same [] (a_cons (x_callK F_is_line_plan [0] a_nil (a_cons (x_var 4) a_nil)) (a_cons (x_c (.bool true)) a_nil))))) (t_not (t_of (x_call F__law_same [] (a_cons (x_callK F_is_track [0] a_nil (a_cons (x_var 8) a_nil)) (a_cons (x_c (.bool true)) a_nil))))))
  (s_ret (x_c (.bool false)))
  s_nx)
  (s_seq (s_if (t_not (t_of (x_call F__law_same [] (a_cons (x_callK F_mirrored [0] a_nil (a_cons (x_call F_mirrored [] (a_cons (x_var 4) a_nil)) a_nil)) (a_cons (x_var 4) a_nil)))))
  (s_ret (x_c (.bool false)))
  s_nx)
  (s_seq (s_ret (x_call F__law_same [] (a_cons (x_callK F_bases_from [0] a_nil (a_cons (x_call F_track_of [] (a_cons (x_var 5) a_nil)) a_nil)) (a_cons (x_var 5) a_nil))))
  s_nx)))))))))))))))))))))))
def F_law : List PyData → Option Rs := runF 1 9 g_law
end
end K24
namespace K24
open PySem PySem.Spec PyProof.Rows L2 DL
def top (i : Nat) : Stmt := PySem.Challenge.pw_sincemarks_k24_tracks_turns_mirror.main.body.getD i (.Pass ⟨0, 0, 0, 0⟩)
abbrev s_is_integer : Stmt := top 5
abbrev s_is_number : Stmt := top 6
abbrev s_is_nested : Stmt := top 8
abbrev s_need_plan : Stmt := top 9
abbrev s_last_full : Stmt := top 10
abbrev s_ahead_and_behind : Stmt := top 11
abbrev s_put_beside : Stmt := top 12
abbrev s_is_line_plan : Stmt := top 14
abbrev s_is_track : Stmt := top 15
abbrev s__need_track : Stmt := top 16
abbrev s__built : Stmt := top 17
abbrev s_track_of : Stmt := top 18
abbrev s_bases_from : Stmt := top 19
abbrev s_turns_of : Stmt := top 20
abbrev s_mirrored : Stmt := top 21
abbrev s__need_changes : Stmt := top 23
abbrev s_joined_plans : Stmt := top 24
abbrev s_cut_of : Stmt := top 25
abbrev s_parts_of : Stmt := top 26
abbrev s_line_reads : Stmt := top 27
abbrev s_line_writes : Stmt := top 28
abbrev s__law_hand : Stmt := top 30
abbrev s__law_take : Stmt := top 31
abbrev s__law_same : Stmt := top 32
abbrev s__law_plan : Stmt := top 33
abbrev s__law_is_plan : Stmt := top 34
abbrev s__law_reads : Stmt := top 35
abbrev s__law_writes : Stmt := top 36
abbrev s__law_by_reads : Stmt := top 37
abbrev s__law_sign : Stmt := top 38
abbrev s__law_buds : Stmt := top 39
abbrev s__law_spoilt : Stmt := top 40
abbrev s__law_ask : Stmt := top 41
abbrev s__law_ask_two : Stmt := top 42
abbrev s__law_plan_holds : Stmt := top 43
abbrev s__law_sign_holds : Stmt := top 44
abbrev s__law_refused : Stmt := top 45
abbrev s__law_bent_holds : Stmt := top 46
abbrev s__law_far_told : Stmt := top 47
abbrev s_law : Stmt := top 48
def d_is_integer : He.DefD := ⟨("is_integer", none), "is_integer", "is_integer", defArgs s_is_integer, defBody s_is_integer, defScope s_is_integer, [], []⟩
def d_is_number : He.DefD := ⟨("is_number", none), "is_number", "is_number", defArgs s_is_number, defBody s_is_number, defScope s_is_number, [], []⟩
def d_is_nested : He.DefD := ⟨("is_nested", none), "is_nested", "is_nested", defArgs s_is_nested, defBody s_is_nested, defScope s_is_nested, [], []⟩
def d_need_plan : He.DefD := ⟨("need_plan", none), "need_plan", "need_plan", defArgs s_need_plan, defBody s_need_plan, defScope s_need_plan, [], []⟩
def d_last_full : He.DefD := ⟨("last_full", none), "last_full", "last_full", defArgs s_last_full, defBody s_last_full, defScope s_last_full, [], []⟩
def d_ahead_and_behind : He.DefD := ⟨("ahead_and_behind", none), "ahead_and_behind", "ahead_and_behind", defArgs s_ahead_and_behind, defBody s_ahead_and_behind, defScope s_ahead_and_behind, [], []⟩
def d_put_beside : He.DefD := ⟨("put_beside", none), "put_beside", "put_beside", defArgs s_put_beside, defBody s_put_beside, defScope s_put_beside, [], []⟩
def d_is_line_plan : He.DefD := ⟨("is_line_plan", none), "is_line_plan", "is_line_plan", defArgs s_is_line_plan, defBody s_is_line_plan, defScope s_is_line_plan, [], []⟩
def d_is_track : He.DefD := ⟨("is_track", none), "is_track", "is_track", defArgs s_is_track, defBody s_is_track, defScope s_is_track, [], []⟩
def d__need_track : He.DefD := ⟨("_need_track", none), "_need_track", "_need_track", defArgs s__need_track, defBody s__need_track, defScope s__need_track, [], []⟩
def d__built : He.DefD := ⟨("_built", none), "_built", "_built", defArgs s__built, defBody s__built, defScope s__built, [], []⟩
def d_track_of : He.DefD := ⟨("track_of", none), "track_of", "track_of", defArgs s_track_of, defBody s_track_of, defScope s_track_of, [], []⟩
def d_bases_from : He.DefD := ⟨("bases_from", none), "bases_from", "bases_from", defArgs s_bases_from, defBody s_bases_from, defScope s_bases_from, [], []⟩
def d_turns_of : He.DefD := ⟨("turns_of", none), "turns_of", "turns_of", defArgs s_turns_of, defBody s_turns_of, defScope s_turns_of, [], []⟩
def d_mirrored : He.DefD := ⟨("mirrored", none), "mirrored", "mirrored", defArgs s_mirrored, defBody s_mirrored, defScope s_mirrored, [], []⟩
def d__need_changes : He.DefD := ⟨("_need_changes", none), "_need_changes", "_need_changes", defArgs s__need_changes, defBody s__need_changes, defScope s__need_changes, [], []⟩
def d_joined_plans : He.DefD := ⟨("joined_plans", none), "joined_plans", "joined_plans", defArgs s_joined_plans, defBody s_joined_plans, defScope s_joined_plans, [], []⟩
def d_cut_of : He.DefD := ⟨("cut_of", none), "cut_of", "cut_of", defArgs s_cut_of, defBody s_cut_of, defScope s_cut_of, [], []⟩
def d_parts_of : He.DefD := ⟨("parts_of", none), "parts_of", "parts_of", defArgs s_parts_of, defBody s_parts_of, defScope s_parts_of, [], []⟩
def d_line_reads : He.DefD := ⟨("line_reads", none), "line_reads", "line_reads", defArgs s_line_reads, defBody s_line_reads, defScope s_line_reads, [], []⟩
def d_line_writes : He.DefD := ⟨("line_writes", none), "line_writes", "line_writes", defArgs s_line_writes, defBody s_line_writes, defScope s_line_writes, [], []⟩
def d__law_hand : He.DefD := ⟨("_law_hand", none), "_law_hand", "_law_hand", defArgs s__law_hand, defBody s__law_hand, defScope s__law_hand, [], []⟩
def d__law_take : He.DefD := ⟨("_law_take", none), "_law_take", "_law_take", defArgs s__law_take, defBody s__law_take, defScope s__law_take, [], []⟩
def d__law_same : He.DefD := ⟨("_law_same", none), "_law_same", "_law_same", defArgs s__law_same, defBody s__law_same, defScope s__law_same, [], []⟩
def d__law_plan : He.DefD := ⟨("_law_plan", none), "_law_plan", "_law_plan", defArgs s__law_plan, defBody s__law_plan, defScope s__law_plan, [], []⟩
def d__law_is_plan : He.DefD := ⟨("_law_is_plan", none), "_law_is_plan", "_law_is_plan", defArgs s__law_is_plan, defBody s__law_is_plan, defScope s__law_is_plan, [], []⟩
def d__law_reads : He.DefD := ⟨("_law_reads", none), "_law_reads", "_law_reads", defArgs s__law_reads, defBody s__law_reads, defScope s__law_reads, [], []⟩
def d__law_writes : He.DefD := ⟨("_law_writes", none), "_law_writes", "_law_writes", defArgs s__law_writes, defBody s__law_writes, defScope s__law_writes, [], []⟩
def d__law_by_reads : He.DefD := ⟨("_law_by_reads", none), "_law_by_reads", "_law_by_reads", defArgs s__law_by_reads, defBody s__law_by_reads, defScope s__law_by_reads, [], []⟩
def d__law_sign : He.DefD := ⟨("_law_sign", none), "_law_sign", "_law_sign", defArgs s__law_sign, defBody s__law_sign, defScope s__law_sign, [], []⟩
def d__law_buds : He.DefD := ⟨("_law_buds", none), "_law_buds", "_law_buds", defArgs s__law_buds, defBody s__law_buds, defScope s__law_buds, [], []⟩
def d__law_spoilt : He.DefD := ⟨("_law_spoilt", none), "_law_spoilt", "_law_spoilt", defArgs s__law_spoilt, defBody s__law_spoilt, defScope s__law_spoilt, [], []⟩
def d__law_ask : He.DefD := ⟨("_law_ask", none), "_law_ask", "_law_ask", defArgs s__law_ask, defBody s__law_ask, defScope s__law_ask, [], []⟩
def d__law_ask_two : He.DefD := ⟨("_law_ask_two", none), "_law_ask_two", "_law_ask_two", defArgs s__law_ask_two, defBody s__law_ask_two, defScope s__law_ask_two, [], []⟩
def d__law_plan_holds : He.DefD := ⟨("_law_plan_holds", none), "_law_plan_holds", "_law_plan_holds", defArgs s__law_plan_holds, defBody s__law_plan_holds, defScope s__law_plan_holds, [], []⟩
def d__law_sign_holds : He.DefD := ⟨("_law_sign_holds", none), "_law_sign_holds", "_law_sign_holds", defArgs s__law_sign_holds, defBody s__law_sign_holds, defScope s__law_sign_holds, [], []⟩
def d__law_refused : He.DefD := ⟨("_law_refused", none), "_law_refused", "_law_refused", defArgs s__law_refused, defBody s__law_refused, defScope s__law_refused, [], []⟩
def d__law_bent_holds : He.DefD := ⟨("_law_bent_holds", none), "_law_bent_holds", "_law_bent_holds", defArgs s__law_bent_holds, defBody s__law_bent_holds, defScope s__law_bent_holds, [], []⟩
def d__law_far_told : He.DefD := ⟨("_law_far_told", none), "_law_far_told", "_law_far_told", defArgs s__law_far_told, defBody s__law_far_told, defScope s__law_far_told, [], []⟩
def d_law : He.DefD := ⟨("law", none), "law", "law", defArgs s_law, defBody s_law, defScope s_law, [], []⟩
def ex : PySem.W.Frag → Bool := fun K => exB xcs xys xfs xtab K && blB [] K
abbrev s_i_NotUsable : Stmt := inCls (top 3) 0
def d_i_NotUsable : He.DefD := ⟨("NotUsable", some "__init__"), "__init__", "NotUsable.__init__", defArgs s_i_NotUsable, defBody s_i_NotUsable, defScope s_i_NotUsable, [], []⟩
def fn : List He.DefD := [d_is_integer, d_is_number, d_is_nested, d_need_plan, d_last_full, d_ahead_and_behind, d_put_beside, d_is_line_plan, d_is_track, d__need_track, d__built, d_track_of, d_bases_from, d_turns_of, d_mirrored, d__need_changes, d_joined_plans, d_cut_of, d_parts_of, d_line_reads, d_line_writes, d__law_hand, d__law_take, d__law_same, d__law_plan, d__law_is_plan, d__law_reads, d__law_writes, d__law_by_reads, d__law_sign, d__law_buds, d__law_spoilt, d__law_ask, d__law_ask_two, d__law_plan_holds, d__law_sign_holds, d__law_refused, d__law_bent_holds, d__law_far_told, d_law, d_i_NotUsable]
def fa : List He.Fa := [.glo "is_integer", .glo "is_number", .glo "is_nested", .glo "need_plan", .glo "last_full", .glo "ahead_and_behind", .glo "put_beside", .glo "is_line_plan", .glo "is_track", .glo "_need_track", .glo "_built", .glo "track_of", .glo "bases_from", .glo "turns_of", .glo "mirrored", .glo "_need_changes", .glo "joined_plans", .glo "cut_of", .glo "parts_of", .glo "line_reads", .glo "line_writes", .glo "_law_hand", .glo "_law_take", .glo "_law_same", .glo "_law_plan", .glo "_law_is_plan", .glo "_law_reads", .glo "_law_writes", .glo "_law_by_reads", .glo "_law_sign", .glo "_law_buds", .glo "_law_spoilt", .glo "_law_ask", .glo "_law_ask_two", .glo "_law_plan_holds", .glo "_law_sign_holds", .glo "_law_refused", .glo "_law_bent_holds", .glo "_law_far_told", .glo "law", .free "ValueError", .free "abs", .free "bool", .free "enumerate", .free "int", .free "isinstance", .free "len", .free "list", .free "max", .free "range", .free "str", .free "sum", .free "tuple", .free "zip"]
def names0 : List Str := ["BookError", "MarkError", "NotUsable", "_built", "_law_ask", "_law_ask_two", "_law_bent_holds", "_law_buds", "_law_by_reads", "_law_far_told", "_law_hand", "_law_is_plan", "_law_plan", "_law_plan_holds", "_law_reads", "_law_refused", "_law_same", "_law_sign", "_law_sign_holds", "_law_spoilt", "_law_take", "_law_writes", "_need_changes", "_need_track", "ahead_and_behind", "bases_from", "cut_of", "is_integer", "is_line_plan", "is_nested"]
def names1 : List Str := ["is_number", "is_track", "joined_plans", "last_full", "line_reads", "line_writes", "mirrored", "need_plan", "parts_of", "put_beside", "track_of", "turns_of"]
def names : List Str := names0 ++ names1
abbrev R : PySem.W.OpenRow := PySem.W.OpenLaw.row PySem.Challenge.rw_sincemarks_k24_tracks_turns_mirror
abbrev hk : PySem.W.Hook := hookX 4 fa fn ex
def ob (s : PySem.W.SharedT) : He.AlD × Bool := obsXG 4 fa fn ex (HandSHeadRun.getT s)
theorem ob_eq (s : PySem.W.SharedT) : ob s = hk.obs s.abs := obsXG_eq (HandSHeadRun.getT_eq s)
theorem run (w : World) : HandSHeadRun.RunEq R (PySem.W.view R.prog [48]) hk ob 6000 names w := by
  intro os
  kernel_rfl
end K24
namespace K24
open PySem PySem.Spec PyProof.Rows L2 DL
structure Bi (mg : Str → Option Value) : Prop where
  abs : mg ("abs" : Str) = none
  bool : mg ("bool" : Str) = none
  enumerate : mg ("enumerate" : Str) = none
  int : mg ("int" : Str) = none
  isinstance : mg ("isinstance" : Str) = none
  len : mg ("len" : Str) = none
  list : mg ("list" : Str) = none
  max : mg ("max" : Str) = none
  range : mg ("range" : Str) = none
  str : mg ("str" : Str) = none
  sum : mg ("sum" : Str) = none
  tuple : mg ("tuple" : Str) = none
  zip : mg ("zip" : Str) = none
theorem sc_is_integer : FnScope ["thing"] ["thing"] (defScope s_is_integer) := ⟨rfl, rfl, rfl, by decide +kernel, rfl, by decide +kernel, by decide +kernel⟩
theorem sc_last_full : FnScope ["bases", "found", "version", "base"] ["bases"] (defScope s_last_full) := ⟨rfl, rfl, rfl, by decide +kernel, rfl, by decide +kernel, by decide +kernel⟩
theorem sc_put_beside : FnScope ["ahead", "behind", "cut", "base"] ["ahead", "behind"] (defScope s_put_beside) := ⟨rfl, rfl, rfl, by decide +kernel, rfl, by decide +kernel, by decide +kernel⟩
theorem sc_is_track : FnScope ["thing", "missing", "sign"] ["thing"] (defScope s_is_track) := ⟨rfl, rfl, rfl, by decide +kernel, rfl, by decide +kernel, by decide +kernel⟩
theorem sc__law_hand : FnScope ["_law_script"] ["_law_script"] (defScope s__law_hand) := ⟨rfl, rfl, rfl, by decide +kernel, rfl, by decide +kernel, by decide +kernel⟩
theorem sc__law_take : FnScope ["_law_hand_here", "_law_most", "_law_mixed", "_law_cell", "_law_digit"] ["_law_hand_here", "_law_most"] (defScope s__law_take) := ⟨rfl, rfl, rfl, by decide +kernel, rfl, by decide +kernel, by decide +kernel⟩
theorem sc__law_is_plan : FnScope ["_law_found", "_law_z", "_law_v"] ["_law_found"] (defScope s__law_is_plan) := ⟨rfl, rfl, rfl, by decide +kernel, rfl, by decide +kernel, by decide +kernel⟩
theorem sc__law_reads : FnScope ["_law_found", "_law_reads_here", "_law_base"] ["_law_found"] (defScope s__law_reads) := ⟨rfl, rfl, rfl, by decide +kernel, rfl, by decide +kernel, by decide +kernel⟩
theorem sc__law_writes : FnScope ["_law_found", "_law_e", "_law_z"] ["_law_found"] (defScope s__law_writes) := ⟨rfl, rfl, rfl, by decide +kernel, rfl, by decide +kernel, by decide +kernel⟩
theorem sc__law_by_reads : FnScope ["_law_reads_here", "_law_found", "_law_v", "_law_base"] ["_law_reads_here"] (defScope s__law_by_reads) := ⟨rfl, rfl, rfl, by decide +kernel, rfl, by decide +kernel, by decide +kernel⟩
theorem sc__law_buds : FnScope ["_law_text", "_law_waiting", "_law_buds_here", "_law_letter", "_law_lefts", "_law_rights"] ["_law_text"] (defScope s__law_buds) := ⟨rfl, rfl, rfl, by decide +kernel, rfl, by decide +kernel, by decide +kernel⟩
theorem sc_is_number : FnScope ["thing"] ["thing"] (defScope s_is_number) := ⟨rfl, rfl, rfl, by decide +kernel, rfl, by decide +kernel, by decide +kernel⟩
theorem sc_ahead_and_behind : FnScope ["bases", "cut", "ahead", "behind", "base"] ["bases"] (defScope s_ahead_and_behind) := ⟨rfl, rfl, rfl, by decide +kernel, rfl, by decide +kernel, by decide +kernel⟩
theorem sc__built : FnScope ["track", "is_mirrored", "held", "sign", "ahead", "behind"] ["track", "is_mirrored"] (defScope s__built) := ⟨rfl, rfl, rfl, by decide +kernel, rfl, by decide +kernel, by decide +kernel⟩
theorem sc__law_plan : FnScope ["_law_hand_here", "_law_size", "_law_found", "_law_chain", "_law_v", "_law_k"] ["_law_hand_here", "_law_size"] (defScope s__law_plan) := ⟨rfl, rfl, rfl, by decide +kernel, rfl, by decide +kernel, by decide +kernel⟩
theorem sc__law_sign : FnScope ["_law_hand_here", "_law_size", "_law_text", "_law_waiting", "_law_turn"] ["_law_hand_here", "_law_size"] (defScope s__law_sign) := ⟨rfl, rfl, rfl, by decide +kernel, rfl, by decide +kernel, by decide +kernel⟩
theorem sc__law_spoilt : FnScope ["_law_hand_here", "_law_text", "_law_p", "_law_way"] ["_law_hand_here", "_law_text"] (defScope s__law_spoilt) := ⟨rfl, rfl, rfl, by decide +kernel, rfl, by decide +kernel, by decide +kernel⟩
theorem sc_is_nested : FnScope ["thing", "chain", "version", "base"] ["thing"] (defScope s_is_nested) := ⟨rfl, rfl, rfl, by decide +kernel, rfl, by decide +kernel, by decide +kernel⟩
theorem sc__need_track : FnScope ["track"] ["track"] (defScope s__need_track) := ⟨rfl, rfl, rfl, by decide +kernel, rfl, by decide +kernel, by decide +kernel⟩
theorem sc_need_plan : FnScope ["word", "thing"] ["word", "thing"] (defScope s_need_plan) := ⟨rfl, rfl, rfl, by decide +kernel, rfl, by decide +kernel, by decide +kernel⟩
theorem sc_is_line_plan : FnScope ["thing"] ["thing"] (defScope s_is_line_plan) := ⟨rfl, rfl, rfl, by decide +kernel, rfl, by decide +kernel, by decide +kernel⟩
theorem sc_bases_from : FnScope ["track"] ["track"] (defScope s_bases_from) := ⟨rfl, rfl, rfl, by decide +kernel, rfl, by decide +kernel, by decide +kernel⟩
theorem sc_turns_of : FnScope ["track", "turns", "waiting", "sign", "lefts", "rights"] ["track"] (defScope s_turns_of) := ⟨rfl, rfl, rfl, by decide +kernel, rfl, by decide +kernel, by decide +kernel⟩
theorem sc_track_of : FnScope ["bases", "signs", "waiting", "plan", "ahead", "behind"] ["bases"] (defScope s_track_of) := ⟨rfl, rfl, rfl, by decide +kernel, rfl, by decide +kernel, by decide +kernel⟩
theorem sc__need_changes : FnScope ["bases"] ["bases"] (defScope s__need_changes) := ⟨rfl, rfl, rfl, by decide +kernel, rfl, by decide +kernel, by decide +kernel⟩
theorem sc_joined_plans : FnScope ["one", "other"] ["one", "other"] (defScope s_joined_plans) := ⟨rfl, rfl, rfl, by decide +kernel, rfl, by decide +kernel, by decide +kernel⟩
theorem sc_line_reads : FnScope ["bases", "reads", "base"] ["bases"] (defScope s_line_reads) := ⟨rfl, rfl, rfl, by decide +kernel, rfl, by decide +kernel, by decide +kernel⟩
theorem sc_line_writes : FnScope ["bases", "writes", "version", "base", "place", "_"] ["bases"] (defScope s_line_writes) := ⟨rfl, rfl, rfl, by decide +kernel, rfl, by decide +kernel, by decide +kernel⟩
theorem sc_mirrored : FnScope ["bases"] ["bases"] (defScope s_mirrored) := ⟨rfl, rfl, rfl, by decide +kernel, rfl, by decide +kernel, by decide +kernel⟩
theorem sc_cut_of : FnScope ["bases"] ["bases"] (defScope s_cut_of) := ⟨rfl, rfl, rfl, by decide +kernel, rfl, by decide +kernel, by decide +kernel⟩
theorem sc_parts_of : FnScope ["bases"] ["bases"] (defScope s_parts_of) := ⟨rfl, rfl, rfl, by decide +kernel, rfl, by decide +kernel, by decide +kernel⟩
theorem sc__law_ask_two : FnScope ["_law_left", "_law_right", "fault"] ["_law_left", "_law_right"] (defScope s__law_ask_two) := ⟨rfl, rfl, rfl, by decide +kernel, rfl, by decide +kernel, by decide +kernel⟩
theorem sc__law_ask : FnScope ["_law_which", "_law_value", "fault"] ["_law_which", "_law_value"] (defScope s__law_ask) := ⟨rfl, rfl, rfl, by decide +kernel, rfl, by decide +kernel, by decide +kernel⟩
theorem sc__law_same : FnScope ["_law_told", "_law_due", "_law_left", "_law_right"] ["_law_told", "_law_due"] (defScope s__law_same) := ⟨rfl, rfl, rfl, by decide +kernel, rfl, by decide +kernel, by decide +kernel⟩
theorem sc__law_plan_holds : FnScope ["_law_found", "_law_size", "_law_reads_here", "_law_writes_here", "_law_due", "_law_sign_here", "_law_turned", "_law_cut", "_law_ahead", "_law_behind", "_law_k", "_law_v", "_law_r"] ["_law_found"] (defScope s__law_plan_holds) := ⟨rfl, rfl, rfl, by decide +kernel, rfl, by decide +kernel, by decide +kernel⟩
theorem sc__law_sign_holds : FnScope ["_law_text", "_law_buds_here", "_law_due", "_law_pair"] ["_law_text"] (defScope s__law_sign_holds) := ⟨rfl, rfl, rfl, by decide +kernel, rfl, by decide +kernel, by decide +kernel⟩
theorem sc__law_refused : FnScope ["_law_found", "_law_k", "_law_size", "_law_odd", "_law_value", "_law_which", "_law_first"] ["_law_found", "_law_k"] (defScope s__law_refused) := ⟨rfl, rfl, rfl, by decide +kernel, rfl, by decide +kernel, by decide +kernel⟩
theorem sc__law_far_told : FnScope ["_law_hand_here", "_law_far", "_law_long"] ["_law_hand_here"] (defScope s__law_far_told) := ⟨rfl, rfl, rfl, by decide +kernel, rfl, by decide +kernel, by decide +kernel⟩
theorem sc__law_bent_holds : FnScope ["_law_hand_here", "_law_found", "_law_p", "_law_bent", "_law_k"] ["_law_hand_here", "_law_found"] (defScope s__law_bent_holds) := ⟨rfl, rfl, rfl, by decide +kernel, rfl, by decide +kernel, by decide +kernel⟩
theorem sc_law : FnScope ["_law_script", "_law_hand_here", "_law_size", "_law_wider", "_law_found", "_law_small", "_law_rest", "_law_due", "_law_sign_here", "_law_r"] ["_law_script"] (defScope s_law) := ⟨rfl, rfl, rfl, by decide +kernel, rfl, by decide +kernel, by decide +kernel⟩
theorem sc_i_NotUsable : FnScope ["self", "word", "at"] ["self", "word", "at"] (defScope s_i_NotUsable) := ⟨rfl, rfl, rfl, by decide +kernel, rfl, by decide +kernel, by decide +kernel⟩
section
variable {P : Program} {w : World} {K : PySem.W.Frag} {mg : Str → Option Value} {base : Heap} {f : Addr} {fd : FuncData} {dvs : List V} {kws : List (Str × V)}
theorem ok_is_integer (B : Bi mg) (F : FunD K "is_integer" "is_integer" (defArgs s_is_integer) (defBody s_is_integer) (defScope s_is_integer) dvs kws f fd) : FnOk P w K mg base CX0 1 f fd ["thing"] (spD K 1 F_is_integer) :=
  fnD F sc_is_integer rfl rfl fun cdv A outer s H E hr => (ssd_one (sd_ret (ed_and (ed_isi .int (ed_var 0) B.isinstance B.int) (ed_one (ed_not (ed_isi .bool (ed_var 0) B.isinstance B.bool))))))
theorem ok_last_full (B : Bi mg) (F : FunD K "last_full" "last_full" (defArgs s_last_full) (defBody s_last_full) (defScope s_last_full) dvs kws f fd) : FnOk P w K mg base CX0 1 f fd ["bases"] (spD K 1 F_last_full) :=
  fnD F sc_last_full rfl rfl fun cdv A outer s H E hr => (ssd_cons (sd_setF 1 sc_last_full.nd ed_int)
  (ssd_cons (sd_for rfl PassesOwn.never (id_enumF (ed_var 0) B.enumerate) (gd_tup rfl (gsd_cons (i := 2) sc_last_full.nd rfl (by first | exact .inl rfl | exact .inr rfl) (gsd_cons (i := 3) sc_last_full.nd rfl (by first | exact .inl rfl | exact .inr rfl) gsd_nil)))
  (ssd_one (sd_if (td_cmp vb_eq (op_eqD hr.units) (nomark _) (ed_var 3) ed_int)
  (ssd_one (sd_setF 1 sc_last_full.nd (ed_var 2)))
  ssd_nil)))
  (ssd_cons (sd_ret (ed_var 1))
  ssd_nil)))
theorem ok_put_beside (B : Bi mg) (F : FunD K "put_beside" "put_beside" (defArgs s_put_beside) (defBody s_put_beside) (defScope s_put_beside) dvs kws f fd) : FnOk P w K mg base CX0 1 f fd ["ahead", "behind"] (spD K 2 F_put_beside) :=
  fnD F sc_put_beside rfl rfl fun cdv A outer s H E hr => (ssd_cons (sd_setF 2 sc_put_beside.nd (ed_op vb_add op_add3 (ed_cb vc_len call_len_seq B.len (ad_cons (ed_var 0) ad_nil)) ed_int))
  (ssd_cons (sd_ret (ed_op vb_add op_add3 (ed_op vb_add op_add3 (ed_var 0) (ed_tup (ad_cons ed_int ad_nil))) (ed_ct vc_tuple call_tuple_of B.tuple (ad_cons (ed_lc (own := [("base", 3)]) rfl sc_put_beside.nd (id_seq (ed_var 1)) (by first | decide | with_unfolding_all rfl) (by decide) (fun _ _ _ _ _ => (gd_name (i := 3) sc_put_beside.nd rfl (by first | exact .inl rfl | exact .inr rfl))) (fun _ _ _ _ _ => ptd_nil) (fun _ _ _ _ _ => (ed_op vb_add op_add3 (ed_var 2) (ed_var 3)))) ad_nil))))
  ssd_nil))
theorem ok_is_track (B : Bi mg) (F : FunD K "is_track" "is_track" (defArgs s_is_track) (defBody s_is_track) (defScope s_is_track) dvs kws f fd) : FnOk P w K mg base CX0 1 f fd ["thing"] (spD K 1 F_is_track) :=
  fnD F sc_is_track rfl rfl fun cdv A outer s H E hr => (ssd_cons (sd_if (td_not (td_val (ed_isi .str (ed_var 0) B.isinstance B.str)))
  (ssd_one (sd_ret ed_bl))
  ssd_nil)
  (ssd_cons (sd_setF 1 sc_is_track.nd ed_int)
  (ssd_cons (sd_for rfl PassesOwn.never (id_txt (ed_var 0)) (gd_name (i := 2) sc_is_track.nd rfl (by first | exact .inl rfl | exact .inr rfl))
  (ssd_cons (sd_if (td_cmp vb_eq (op_eqD hr.units) (nomark _) (ed_var 1) ed_int)
  (ssd_one (sd_ret ed_bl))
  ssd_nil)
  (ssd_cons (sd_if (td_cmp vb_eq (op_eqD hr.units) (nomark _) (ed_var 2) ed_str)
  (ssd_one (sd_aug (fun i j => i + j) ip_add 1 sc_is_track.nd ed_int))
  (ssd_one (sd_if (td_cmp vb_eq (op_eqD hr.units) (nomark _) (ed_var 2) ed_str)
  (ssd_one (sd_aug (fun i j => i - j) ip_sub 1 sc_is_track.nd ed_int))
  (ssd_one (sd_ret ed_bl)))))
  ssd_nil)))
  (ssd_cons (sd_ret (ed_cmp vb_eq (op_eqD hr.units) (nomark _) (ed_var 1) ed_int))
  ssd_nil))))
theorem ok__law_hand (B : Bi mg) (F : FunD K "_law_hand" "_law_hand" (defArgs s__law_hand) (defBody s__law_hand) (defScope s__law_hand) dvs kws f fd) : FnOk P w K mg base CX0 1 f fd ["_law_script"] (spD K 1 F__law_hand) :=
  fnD F sc__law_hand rfl rfl fun cdv A outer s H E hr => (ssd_one (sd_ret (ed_lst (ad_cons (ed_ct vc_list call_list_of B.list (ad_cons (ed_var 0) ad_nil)) (ad_cons ed_int (ad_cons ed_int (ad_cons ed_int (ad_cons ed_int ad_nil))))))))
theorem ok__law_take (B : Bi mg) (F : FunD K "_law_take" "_law_take" (defArgs s__law_take) (defBody s__law_take) (defScope s__law_take) dvs kws f fd) : FnOk P w K mg base CX0 1 f fd ["_law_hand_here", "_law_most"] (spM K 1 F__law_take) :=
  fnM F sc__law_take rfl rfl fun cdv A outer s H E hr => (ssd_cons (sd_put 0 (ed_op vb_add op_add3 (ed_ix (ed_var 0) ed_int) ed_int) ed_int)
  (ssd_cons (sd_if (td_cmp vb_eq (op_eqD hr.units) (nomark _) (ed_cb vc_len call_len_seq B.len (ad_cons (ed_ix (ed_var 0) ed_int) ad_nil)) ed_int)
  (ssd_one (sd_ret (ed_op vb_mod op_mod (ed_ct vc_int call_int1 B.int (ad_cons (ed_op vb_add op_add3 ed_int (ed_op vb_mul op_mul2 ed_int (ed_ix (ed_var 0) ed_int))) ad_nil)) (ed_var 1))))
  ssd_nil)
  (ssd_cons (sd_if (WD.td (wd_and (td_cmp vb_eq (op_eqD hr.units) (nomark _) (ed_ix (ed_var 0) ed_int) ed_int) (wd_and1 (td_cmp vq_lt (oq_lt hr.units) (nomark _) (ed_ix (ed_var 0) ed_int) (ed_cb vc_len call_len_seq B.len (ad_cons (ed_ix (ed_var 0) ed_int) ad_nil))))))
  (ssd_cons (sd_setF 3 sc__law_take.nd (ed_ix (ed_ix (ed_var 0) ed_int) (ed_ix (ed_var 0) ed_int)))
  (ssd_cons (sd_put 0 (ed_op vb_add op_add3 (ed_ix (ed_var 0) ed_int) ed_int) ed_int)
  (ssd_cons (sd_put 0 (ed_op vb_mod op_mod (ed_ct vc_int call_int1 B.int (ad_cons (ed_op vb_add op_add3 (ed_op vb_add op_add3 (ed_op vb_mul op_mul2 (ed_ix (ed_var 0) ed_int) ed_int) (ed_var 3)) ed_int) ad_nil)) ed_int) ed_int)
  (ssd_cons (sd_if (td_cmp vq_ge (oq_ge hr.units) (nomark _) (ed_cb vc_abs call_abs B.abs (ad_cons (ed_var 3) ad_nil)) (ed_op vb_pow op_pow ed_int ed_int))
  (ssd_one (sd_put 0 (ed_op vb_mod op_mod (ed_ct vc_int call_int1 B.int (ad_cons (ed_cb vc_abs call_abs B.abs (ad_cons (ed_var 3) ad_nil)) ad_nil)) (ed_op vb_pow op_pow ed_int ed_int)) ed_int))
  ssd_nil)
  ssd_nil))))
  ssd_nil)
  (ssd_cons (sd_if (td_cmp vq_gt (oq_gt hr.units) (nomark _) (ed_ix (ed_var 0) ed_int) ed_int)
  (ssd_cons (sd_setF 4 sc__law_take.nd (ed_op vb_mod op_mod (ed_ct vc_int call_int1 B.int (ad_cons (ed_ix (ed_var 0) ed_int) ad_nil)) (ed_var 1)))
  (ssd_cons (sd_put 0 (ed_op vb_div op_fdivW (ed_ix (ed_var 0) ed_int) (ed_var 1)) ed_int)
  (ssd_cons (sd_ret (ed_var 4))
  ssd_nil)))
  ssd_nil)
  (ssd_cons (sd_setF 2 sc__law_take.nd (ed_op vb_mod op_mod (ed_ct vc_int call_int1 B.int (ad_cons (ed_op vb_mul op_mul2 (ed_op vb_add op_add3 (ed_ix (ed_var 0) ed_int) (ed_op vb_mul op_mul2 (ed_ix (ed_var 0) ed_int) ed_int)) ed_int) ad_nil)) ed_int))
  (ssd_cons (sd_setF 2 sc__law_take.nd (ed_op vb_mod op_mod (ed_ct vc_int call_int1 B.int (ad_cons (ed_op vb_add op_add3 (ed_op vb_mul op_mul2 (ed_var 2) (ed_var 2)) (ed_ix (ed_var 0) ed_int)) ad_nil)) ed_int))
  (ssd_cons (sd_ret (ed_op vb_mod op_mod (ed_ct vc_int call_int1 B.int (ad_cons (ed_op vb_div op_fdivW (ed_op vb_mod op_mod (ed_ct vc_int call_int1 B.int (ad_cons (ed_op vb_add op_add3 (ed_op vb_mul op_mul2 (ed_var 2) ed_int) (ed_ix (ed_var 0) ed_int)) ad_nil)) ed_int) ed_int) ad_nil)) (ed_var 1)))
  ssd_nil)))))))
theorem ok__law_is_plan (B : Bi mg) (F : FunD K "_law_is_plan" "_law_is_plan" (defArgs s__law_is_plan) (defBody s__law_is_plan) (defScope s__law_is_plan) dvs kws f fd) : FnOk P w K mg base CX0 1 f fd ["_law_found"] (spD K 1 F__law_is_plan) :=
  fnD F sc__law_is_plan rfl rfl fun cdv A outer s H E hr => (ssd_cons (sd_for rfl PassesOwn.never (id_rng1 (ed_cb vc_len call_len_seq B.len (ad_cons (ed_var 0) ad_nil)) B.range) (gd_name (i := 1) sc__law_is_plan.nd rfl (by first | exact .inl rfl | exact .inr rfl))
  (ssd_cons (sd_if (WD.td (wd_or (td_cmp vq_lt (oq_lt hr.units) (nomark _) (ed_ix (ed_var 0) (ed_var 1)) ed_int) (wd_or1 (td_cmp vq_gt (oq_gt hr.units) (nomark _) (ed_ix (ed_var 0) (ed_var 1)) (ed_var 1)))))
  (ssd_one (sd_ret ed_bl))
  ssd_nil)
  (ssd_cons (sd_for rfl PassesOwn.never (id_rng2 (ed_op vb_add op_add3 (ed_ix (ed_var 0) (ed_var 1)) ed_int) (ed_op vb_add op_add3 (ed_var 1) ed_int) B.range) (gd_name (i := 2) sc__law_is_plan.nd rfl (by first | exact .inl rfl | exact .inr rfl))
  (ssd_one (sd_if (td_cmp vq_gt (oq_gt hr.units) (nomark _) (ed_ix (ed_var 0) (ed_var 1)) (ed_ix (ed_var 0) (ed_op vb_sub op_sub (ed_var 2) ed_int)))
  (ssd_one (sd_ret ed_bl))
  ssd_nil)))
  ssd_nil)))
  (ssd_cons (sd_ret ed_bl)
  ssd_nil))
theorem ok__law_reads (F : FunD K "_law_reads" "_law_reads" (defArgs s__law_reads) (defBody s__law_reads) (defScope s__law_reads) dvs kws f fd) : FnOk P w K mg base CX0 1 f fd ["_law_found"] (spD K 1 F__law_reads) :=
  fnD F sc__law_reads rfl rfl fun cdv A outer s H E hr => (ssd_cons (sd_set 1 sc__law_reads.nd (ed_lst (ad_cons ed_int ad_nil)))
  (ssd_cons (sd_for rfl PassesOwn.never (id_seq (ed_var 0)) (gd_name (i := 2) sc__law_reads.nd rfl (by first | exact .inl rfl | exact .inr rfl))
  (ssd_one (sd_expr (ed_app 1 (ed_op vb_add op_add3 (ed_ix (ed_var 1) (ed_var 2)) ed_int)))))
  (ssd_cons (sd_ret (ed_var 1))
  ssd_nil)))
theorem ok__law_writes (B : Bi mg) (F : FunD K "_law_writes" "_law_writes" (defArgs s__law_writes) (defBody s__law_writes) (defScope s__law_writes) dvs kws f fd) : FnOk P w K mg base CX0 1 f fd ["_law_found"] (spD K 1 F__law_writes) :=
  fnD F sc__law_writes rfl rfl fun cdv A outer s H E hr => (ssd_one (sd_ret (ed_lc (own := [("_law_e", 1)]) rfl sc__law_writes.nd (id_rng2 ed_int (ed_op vb_add op_add3 (ed_cb vc_len call_len_seq B.len (ad_cons (ed_var 0) ad_nil)) ed_int) B.range) (by first | decide | with_unfolding_all rfl) (by decide) (fun _ _ _ _ _ => (gd_name (i := 1) sc__law_writes.nd rfl (by first | exact .inl rfl | exact .inr rfl))) (fun _ _ _ _ _ => ptd_nil) (fun _ _ _ _ _ => (ed_cb vc_sum (cr_sum rfl) B.sum (ad_cons (ed_lc (own := [("_law_z", 2)]) rfl sc__law_writes.nd (id_rng2 (ed_var 1) (ed_op vb_add op_add3 (ed_cb vc_len call_len_seq B.len (ad_cons (ed_var 0) ad_nil)) ed_int) B.range) (by first | decide | with_unfolding_all rfl) (by decide) (fun _ _ _ _ _ => (gd_name (i := 2) sc__law_writes.nd rfl (by first | exact .inl rfl | exact .inr rfl))) (fun _ _ _ _ _ => ptd_nil) (fun _ _ _ _ _ => (ed_ct vc_int call_int1 B.int (ad_cons (ed_cmp vq_lt (oq_lt hr.units) (nomark _) (ed_ix (ed_var 0) (ed_op vb_sub op_sub (ed_var 2) ed_int)) (ed_var 1)) ad_nil)))) ad_nil))))))
theorem ok__law_by_reads (B : Bi mg) (F : FunD K "_law_by_reads" "_law_by_reads" (defArgs s__law_by_reads) (defBody s__law_by_reads) (defScope s__law_by_reads) dvs kws f fd) : FnOk P w K mg base CX0 1 f fd ["_law_reads_here"] (spD K 1 F__law_by_reads) :=
  fnD F sc__law_by_reads rfl rfl fun cdv A outer s H E hr => (ssd_cons (sd_set 1 sc__law_by_reads.nd (ed_lst ad_nil))
  (ssd_cons (sd_for rfl PassesOwn.never (id_rng2 ed_int (ed_cb vc_len call_len_seq B.len (ad_cons (ed_var 0) ad_nil)) B.range) (gd_name (i := 2) sc__law_by_reads.nd rfl (by first | exact .inl rfl | exact .inr rfl))
  (ssd_cons (sd_setF 3 sc__law_by_reads.nd (ed_op vb_sub op_sub (ed_var 2) ed_int))
  (ssd_cons (sd_while (fuI 3) PassesOwn.never (WD.td (wd_and (td_cmp vq_gt (oq_gt hr.units) (nomark _) (ed_var 3) ed_int) (wd_and1 (td_cmp vq_ge (oq_ge hr.units) (nomark _) (ed_ix (ed_var 0) (ed_var 3)) (ed_ix (ed_var 0) (ed_var 2))))))
  (ssd_one (sd_setF 3 sc__law_by_reads.nd (ed_op vb_sub op_sub (ed_var 3) ed_int))))
  (ssd_cons (sd_expr (ed_app 1 (ed_var 3)))
  ssd_nil))))
  (ssd_cons (sd_ret (ed_ct vc_tuple call_tuple_of B.tuple (ad_cons (ed_var 1) ad_nil)))
  ssd_nil)))
theorem ok__law_buds (B : Bi mg) (F : FunD K "_law_buds" "_law_buds" (defArgs s__law_buds) (defBody s__law_buds) (defScope s__law_buds) dvs kws f fd) : FnOk P w K mg base CX0 1 f fd ["_law_text"] (spD K 1 F__law_buds) :=
  fnD F sc__law_buds rfl rfl fun cdv A outer s H E hr => (ssd_cons (sd_set 1 sc__law_buds.nd (ed_lst (ad_cons (ed_tup (ad_cons ed_int (ad_cons ed_int ad_nil))) ad_nil)))
  (ssd_cons (sd_set 2 sc__law_buds.nd (ed_lst ad_nil))
  (ssd_cons (sd_for rfl PassesOwn.never (id_txt (ed_var 0)) (gd_name (i := 3) sc__law_buds.nd rfl (by first | exact .inl rfl | exact .inr rfl))
  (ssd_cons (sd_if (WD.td (wd_or (td_cmp vb_eq (op_eqD hr.units) (nomark _) (ed_cb vc_len call_len_seq B.len (ad_cons (ed_var 1) ad_nil)) ed_int) (wd_or1 (td_cmp vb_inB op_notIn_seq (by with_unfolding_all rfl) (ed_var 3) (ed_tup (ad_cons ed_str (ad_cons ed_str ad_nil)))))))
  (ssd_one (sd_ret ed_non))
  ssd_nil)
  (ssd_cons (sd_asg (ed_pop0 1) (gd_tup rfl (gsd_cons (i := 4) sc__law_buds.nd rfl (by first | exact .inl rfl | exact .inr rfl) (gsd_cons (i := 5) sc__law_buds.nd rfl (by first | exact .inl rfl | exact .inr rfl) gsd_nil))))
  (ssd_cons (sd_if (td_cmp vb_eq (op_eqD hr.units) (nomark _) (ed_var 3) ed_str)
  (ssd_cons (sd_expr (ed_app 1 (ed_tup (ad_cons (ed_var 4) (ad_cons (ed_op vb_add op_add3 (ed_var 5) ed_int) ad_nil)))))
  (ssd_cons (sd_expr (ed_app 1 (ed_tup (ad_cons (ed_op vb_add op_add3 (ed_var 4) ed_int) (ad_cons (ed_var 5) ad_nil)))))
  ssd_nil))
  (ssd_one (sd_expr (ed_app 2 (ed_tup (ad_cons (ed_var 4) (ad_cons (ed_var 5) ad_nil)))))))
  ssd_nil))))
  (ssd_cons (sd_if (td_cmp vq_gt (oq_gt hr.units) (nomark _) (ed_cb vc_len call_len_seq B.len (ad_cons (ed_var 1) ad_nil)) ed_int)
  (ssd_one (sd_ret ed_non))
  ssd_nil)
  (ssd_cons (sd_ret (ed_ct vc_tuple call_tuple_of B.tuple (ad_cons (ed_var 2) ad_nil)))
  ssd_nil)))))
theorem ok_is_number (F : FunD K "is_number" "is_number" (defArgs s_is_number) (defBody s_is_number) (defScope s_is_number) dvs kws f fd) (c_is_integer : Kf P w K mg base 1 "is_integer" (spD K 1 F_is_integer) []) : FnOk P w K mg base CX0 2 f fd ["thing"] (spD K 1 F_is_number) :=
  fnD F sc_is_number rfl rfl fun cdv A outer s H E hr => (ssd_one (sd_ret (ed_and (ed_call c_is_integer hr (by decide) dvs0 runF_len (ad_cons (ed_var 0) ad_nil)) (ed_one (ed_cmp vq_ge (oq_ge hr.units) (nomark _) (ed_var 0) ed_int)))))
theorem ok_ahead_and_behind (B : Bi mg) (F : FunD K "ahead_and_behind" "ahead_and_behind" (defArgs s_ahead_and_behind) (defBody s_ahead_and_behind) (defScope s_ahead_and_behind) dvs kws f fd) (c_last_full : Kf P w K mg base 1 "last_full" (spD K 1 F_last_full) []) : FnOk P w K mg base CX0 2 f fd ["bases"] (spD K 1 F_ahead_and_behind) :=
  fnD F sc_ahead_and_behind rfl rfl fun cdv A outer s H E hr => (ssd_cons (sd_setF 1 sc_ahead_and_behind.nd (ed_call c_last_full hr (by decide) dvs0 runF_len (ad_cons (ed_var 0) ad_nil)))
  (ssd_cons (sd_setF 2 sc_ahead_and_behind.nd (ed_sl (ed_var 0) od_no (od_at (ed_op vb_sub op_sub (ed_var 1) ed_int))))
  (ssd_cons (sd_setF 3 sc_ahead_and_behind.nd (ed_ct vc_tuple call_tuple_of B.tuple (ad_cons (ed_lc (own := [("base", 4)]) rfl sc_ahead_and_behind.nd (id_seq (ed_sl (ed_var 0) (od_at (ed_var 1)) od_no)) (by first | decide | with_unfolding_all rfl) (by decide) (fun _ _ _ _ _ => (gd_name (i := 4) sc_ahead_and_behind.nd rfl (by first | exact .inl rfl | exact .inr rfl))) (fun _ _ _ _ _ => ptd_nil) (fun _ _ _ _ _ => (ed_op vb_sub op_sub (ed_var 4) (ed_var 1)))) ad_nil)))
  (ssd_cons (sd_ret (ed_tup (ad_cons (ed_var 2) (ad_cons (ed_var 3) ad_nil))))
  ssd_nil))))
theorem ok__built (F : FunD K "_built" "_built" (defArgs s__built) (defBody s__built) (defScope s__built) dvs kws f fd) (c_put_beside : Kf P w K mg base 1 "put_beside" (spD K 2 F_put_beside) []) : FnOk P w K mg base CX0 2 f fd ["track", "is_mirrored"] (spD K 2 F__built) :=
  fnD F sc__built rfl rfl fun cdv A outer s H E hr => (ssd_cons (sd_set 2 sc__built.nd (ed_lst ad_nil))
  (ssd_cons (sd_for rfl PassesOwn.never (id_txt (ed_rvS (ed_var 0))) (gd_name (i := 3) sc__built.nd rfl (by first | exact .inl rfl | exact .inr rfl))
  (ssd_cons (sd_if (td_cmp vb_eq (op_eqD hr.units) (nomark _) (ed_var 3) ed_str)
  (ssd_cons (sd_expr (ed_app 2 (ed_tup ad_nil)))
  (ssd_cons sd_continue
  ssd_nil))
  ssd_nil)
  (ssd_cons (sd_setF 4 sc__built.nd (ed_pop0 2))
  (ssd_cons (sd_setF 5 sc__built.nd (ed_pop0 2))
  (ssd_cons (sd_if (td_val (ed_var 1))
  (ssd_one (sd_expr (ed_app 2 (ed_call c_put_beside hr (by decide) dvs0 runF_len (ad_cons (ed_var 5) (ad_cons (ed_var 4) ad_nil))))))
  (ssd_one (sd_expr (ed_app 2 (ed_call c_put_beside hr (by decide) dvs0 runF_len (ad_cons (ed_var 4) (ad_cons (ed_var 5) ad_nil)))))))
  ssd_nil)))))
  (ssd_cons (sd_ret (ed_ix (ed_var 2) ed_int))
  ssd_nil)))
theorem ok__law_plan (B : Bi mg) (F : FunD K "_law_plan" "_law_plan" (defArgs s__law_plan) (defBody s__law_plan) (defScope s__law_plan) dvs kws f fd) (c__law_take : Kf P w K mg base 1 "_law_take" (spM K 1 F__law_take) []) : FnOk P w K mg base CX0 2 f fd ["_law_hand_here", "_law_size"] (spM K 1 F__law_plan) :=
  fnM F sc__law_plan rfl rfl fun cdv A outer s H E hr => (ssd_cons (sd_set 2 sc__law_plan.nd (ed_lst ad_nil))
  (ssd_cons (sd_setF 3 sc__law_plan.nd (ed_lst ad_nil))
  (ssd_cons (sd_for rfl PassesOwn.never (id_rng2 ed_int (ed_op vb_add op_add3 (ed_var 1) ed_int) B.range) (gd_name (i := 4) sc__law_plan.nd rfl (by first | exact .inl rfl | exact .inr rfl))
  (ssd_cons (sd_setF 5 sc__law_plan.nd (ed_callM c__law_take hr (by decide) dvs0 runM_len (ad_cons (ed_var 0) (ad_cons (ed_op vb_add op_add3 (ed_cb vc_len call_len_seq B.len (ad_cons (ed_var 3) ad_nil)) ed_int) ad_nil))))
  (ssd_cons (sd_expr (ed_app 2 (ed_ix (ed_op vb_add op_add3 (ed_var 3) (ed_lst (ad_cons ed_int ad_nil))) (ed_var 5))))
  (ssd_cons (sd_setF 3 sc__law_plan.nd (ed_op vb_add op_add3 (ed_lst (ad_cons (ed_var 4) ad_nil)) (ed_sl (ed_var 3) (od_at (ed_var 5)) od_no)))
  ssd_nil))))
  (ssd_cons (sd_ret (ed_ct vc_tuple call_tuple_of B.tuple (ad_cons (ed_var 2) ad_nil)))
  ssd_nil))))
theorem ok__law_sign (B : Bi mg) (F : FunD K "_law_sign" "_law_sign" (defArgs s__law_sign) (defBody s__law_sign) (defScope s__law_sign) dvs kws f fd) (c__law_take : Kf P w K mg base 1 "_law_take" (spM K 1 F__law_take) []) : FnOk P w K mg base CX0 2 f fd ["_law_hand_here", "_law_size"] (spM K 1 F__law_sign) :=
  fnM F sc__law_sign rfl rfl fun cdv A outer s H E hr => (ssd_cons (sd_setF 2 sc__law_sign.nd ed_str)
  (ssd_cons (sd_setF 3 sc__law_sign.nd ed_int)
  (ssd_cons (sd_for rfl PassesOwn.never (id_rng1 (ed_op vb_add op_add3 (ed_op vb_mul op_mul2 ed_int (ed_var 1)) ed_int) B.range) (gd_name (i := 4) sc__law_sign.nd rfl (by first | exact .inl rfl | exact .inr rfl))
  (ssd_one (sd_if (WD.td (wd_and (td_cmp vq_gt (oq_gt hr.units) (nomark _) (ed_var 1) ed_int) (wd_and1 (WD.td (wd_or (td_cmp vb_eq (op_eqD hr.units) (nomark _) (ed_var 3) ed_int) (wd_or1 (td_cmp vb_eq (op_eqD hr.units) (nomark _) (ed_callM c__law_take hr (by decide) dvs0 runM_len (ad_cons (ed_var 0) (ad_cons ed_int ad_nil))) ed_int)))))))
  (ssd_cons (sd_setF 2 sc__law_sign.nd (ed_op vb_adS op_add_str (ed_var 2) ed_str))
  (ssd_cons (sd_setF 1 sc__law_sign.nd (ed_op vb_sub op_sub (ed_var 1) ed_int))
  (ssd_cons (sd_setF 3 sc__law_sign.nd (ed_op vb_add op_add3 (ed_var 3) ed_int))
  ssd_nil)))
  (ssd_cons (sd_setF 2 sc__law_sign.nd (ed_op vb_adS op_add_str (ed_var 2) ed_str))
  (ssd_cons (sd_setF 3 sc__law_sign.nd (ed_op vb_sub op_sub (ed_var 3) ed_int))
  ssd_nil)))))
  (ssd_cons (sd_ret (ed_var 2))
  ssd_nil))))
theorem ok__law_spoilt (B : Bi mg) (F : FunD K "_law_spoilt" "_law_spoilt" (defArgs s__law_spoilt) (defBody s__law_spoilt) (defScope s__law_spoilt) dvs kws f fd) (c__law_take : Kf P w K mg base 1 "_law_take" (spM K 1 F__law_take) []) : FnOk P w K mg base CX0 2 f fd ["_law_hand_here", "_law_text"] (spM K 1 F__law_spoilt) :=
  fnM F sc__law_spoilt rfl rfl fun cdv A outer s H E hr => (ssd_cons (sd_setF 2 sc__law_spoilt.nd (ed_callM c__law_take hr (by decide) dvs0 runM_len (ad_cons (ed_var 0) (ad_cons (ed_cb vc_lenS call_len_str B.len (ad_cons (ed_var 1) ad_nil)) ad_nil))))
  (ssd_cons (sd_setF 3 sc__law_spoilt.nd (ed_callM c__law_take hr (by decide) dvs0 runM_len (ad_cons (ed_var 0) (ad_cons ed_int ad_nil))))
  (ssd_cons (sd_if (td_cmp vb_eq (op_eqD hr.units) (nomark _) (ed_var 3) ed_int)
  (ssd_one (sd_ret (ed_op vb_adS op_add_str (ed_slS (ed_var 1) od_no (od_at (ed_var 2))) (ed_slS (ed_var 1) (od_at (ed_op vb_add op_add3 (ed_var 2) ed_int)) od_no))))
  ssd_nil)
  (ssd_cons (sd_if (td_cmp vb_eq (op_eqD hr.units) (nomark _) (ed_var 3) ed_int)
  (ssd_one (sd_ret (ed_op vb_adS op_add_str (ed_op vb_adS op_add_str (ed_slS (ed_var 1) od_no (od_at (ed_var 2))) ed_str) (ed_slS (ed_var 1) (od_at (ed_var 2)) od_no))))
  ssd_nil)
  (ssd_cons (sd_if (td_cmp vb_eq (op_eqD hr.units) (nomark _) (ed_var 3) ed_int)
  (ssd_one (sd_ret (ed_op vb_adS op_add_str (ed_var 1) ed_str)))
  ssd_nil)
  (ssd_cons (sd_if (td_cmp vb_eq (op_eqD hr.units) (nomark _) (ed_var 3) ed_int)
  (ssd_one (sd_ret (ed_op vb_adS op_add_str (ed_op vb_adS op_add_str (ed_slS (ed_var 1) od_no (od_at (ed_var 2))) (ed_if (td_cmp vb_eq (op_eqD hr.units) (nomark _) (ed_ixS (ed_var 1) (ed_var 2)) ed_str) ed_str ed_str)) (ed_slS (ed_var 1) (od_at (ed_op vb_add op_add3 (ed_var 2) ed_int)) od_no))))
  ssd_nil)
  (ssd_cons (sd_if (td_cmp vb_eq (op_eqD hr.units) (nomark _) (ed_var 3) ed_int)
  (ssd_one (sd_ret (ed_rvS (ed_var 1))))
  ssd_nil)
  (ssd_cons (sd_if (td_cmp vb_eq (op_eqD hr.units) (nomark _) (ed_var 3) ed_int)
  (ssd_one (sd_ret (ed_op vb_adS op_add_str (ed_op vb_adS op_add_str (ed_slS (ed_var 1) od_no (od_at (ed_var 2))) ed_str) (ed_slS (ed_var 1) (od_at (ed_var 2)) od_no))))
  ssd_nil)
  (ssd_cons (sd_if (td_cmp vb_eq (op_eqD hr.units) (nomark _) (ed_var 3) ed_int)
  (ssd_one (sd_ret (ed_op vb_adS op_add_str (ed_op vb_adS op_add_str (ed_slS (ed_var 1) od_no (od_at (ed_var 2))) ed_str) (ed_slS (ed_var 1) (od_at (ed_var 2)) od_no))))
  ssd_nil)
  (ssd_cons (sd_ret (ed_op vb_adS op_add_str (ed_slS (ed_var 1) (od_at (ed_var 2)) od_no) (ed_slS (ed_var 1) od_no (od_at (ed_var 2)))))
  ssd_nil))))))))))
theorem ok_is_nested (B : Bi mg) (F : FunD K "is_nested" "is_nested" (defArgs s_is_nested) (defBody s_is_nested) (defScope s_is_nested) dvs kws f fd) (c_is_number : Kf P w K mg base 2 "is_number" (spD K 1 F_is_number) []) : FnOk P w K mg base CX0 3 f fd ["thing"] (spD K 1 F_is_nested) :=
  fnD F sc_is_nested rfl rfl fun cdv A outer s H E hr => (ssd_cons (sd_if (td_not (td_val (ed_isi .tuple (ed_var 0) B.isinstance B.tuple)))
  (ssd_one (sd_ret ed_bl))
  ssd_nil)
  (ssd_cons (sd_set 1 sc_is_nested.nd (ed_lst (ad_cons ed_int ad_nil)))
  (ssd_cons (sd_setF 2 sc_is_nested.nd ed_int)
  (ssd_cons (sd_for rfl PassesOwn.never (id_seq (ed_var 0)) (gd_name (i := 3) sc_is_nested.nd rfl (by first | exact .inl rfl | exact .inr rfl))
  (ssd_cons (sd_aug (fun i j => i + j) ip_add 2 sc_is_nested.nd ed_int)
  (ssd_cons (sd_if (td_not (td_val (ed_call c_is_number hr (by decide) dvs0 runF_len (ad_cons (ed_var 3) ad_nil))))
  (ssd_one (sd_ret ed_bl))
  ssd_nil)
  (ssd_cons (sd_while (fun _ => 300) PassesOwn.never (td_cmp vq_gt (oq_gt hr.units) (nomark _) (ed_ix (ed_var 1) (ed_neg ed_int)) (ed_var 3))
  (ssd_one (sd_expr (ed_pop0 1))))
  (ssd_cons (sd_if (td_cmp vb_ne (op_neD hr.units) (nomark _) (ed_ix (ed_var 1) (ed_neg ed_int)) (ed_var 3))
  (ssd_one (sd_ret ed_bl))
  ssd_nil)
  (ssd_cons (sd_expr (ed_app 1 (ed_var 2)))
  ssd_nil))))))
  (ssd_cons (sd_ret ed_bl)
  ssd_nil)))))
theorem okx__need_track (XI : Xi K mg xcs xys xfs xtab) (XT_NotUsable : ExT P w K mg base "NotUsable" ["word", "at"]) (F : FunD K "_need_track" "_need_track" (defArgs s__need_track) (defBody s__need_track) (defScope s__need_track) dvs kws f fd) (c_is_track : Kf P w K mg base 1 "is_track" (spD K 1 F_is_track) []) : FnOk P w K mg base (L2N.CX P w) 3 f fd ["track"] (spX K mg 1 FY__need_track) :=
  fnX F sc__need_track rfl rfl fun cdv A outer s H E hr tk => (ssdx_one (sdx_if (td_not (td_val (ed_call c_is_track hr (by decide) dvs0 runF_len (ad_cons (ed_var 0) ad_nil))))
  (ssdx_one (sdx_raise XT_NotUsable hr (by decide) rfl tk (ad_cons ed_str (ad_cons (ed_neg ed_int) ad_nil))))
  ssdx_nil))
theorem ok__need_track (F : FunD K "_need_track" "_need_track" (defArgs s__need_track) (defBody s__need_track) (defScope s__need_track) dvs kws f fd) (c_is_track : Kf P w K mg base 1 "is_track" (spD K 1 F_is_track) []) : FnOk P w K mg base CX0 3 f fd ["track"] (spD K 1 F__need_track) :=
  fnD F sc__need_track rfl rfl fun cdv A outer s H E hr => (ssd_one (sd_if (td_not (td_val (ed_call c_is_track hr (by decide) dvs0 runF_len (ad_cons (ed_var 0) ad_nil))))
  (ssd_one sd_never)
  ssd_nil))
theorem okx_need_plan (XI : Xi K mg xcs xys xfs xtab) (XT_NotUsable : ExT P w K mg base "NotUsable" ["word", "at"]) (F : FunD K "need_plan" "need_plan" (defArgs s_need_plan) (defBody s_need_plan) (defScope s_need_plan) dvs kws f fd) (c_is_nested : Kf P w K mg base 3 "is_nested" (spD K 1 F_is_nested) []) : FnOk P w K mg base (L2N.CX P w) 4 f fd ["word", "thing"] (spX K mg 2 FY_need_plan) :=
  fnX F sc_need_plan rfl rfl fun cdv A outer s H E hr tk => (ssdx_one (sdx_if (td_not (td_val (ed_call c_is_nested hr (by decide) dvs0 runF_len (ad_cons (ed_var 1) ad_nil))))
  (ssdx_one (sdx_raise XT_NotUsable hr (by decide) rfl tk (ad_cons (ed_var 0) (ad_cons (ed_neg ed_int) ad_nil))))
  ssdx_nil))
theorem ok_need_plan (F : FunD K "need_plan" "need_plan" (defArgs s_need_plan) (defBody s_need_plan) (defScope s_need_plan) dvs kws f fd) (c_is_nested : Kf P w K mg base 3 "is_nested" (spD K 1 F_is_nested) []) : FnOk P w K mg base CX0 4 f fd ["word", "thing"] (spD K 2 F_need_plan) :=
  fnD F sc_need_plan rfl rfl fun cdv A outer s H E hr => (ssd_one (sd_if (td_not (td_val (ed_call c_is_nested hr (by decide) dvs0 runF_len (ad_cons (ed_var 1) ad_nil))))
  (ssd_one sd_never)
  ssd_nil))
theorem ok_is_line_plan (F : FunD K "is_line_plan" "is_line_plan" (defArgs s_is_line_plan) (defBody s_is_line_plan) (defScope s_is_line_plan) dvs kws f fd) (c_is_nested : Kf P w K mg base 3 "is_nested" (spD K 1 F_is_nested) []) : FnOk P w K mg base CX0 4 f fd ["thing"] (spD K 1 F_is_line_plan) :=
  fnD F sc_is_line_plan rfl rfl fun cdv A outer s H E hr => (ssd_one (sd_ret (ed_call c_is_nested hr (by decide) dvs0 runF_len (ad_cons (ed_var 0) ad_nil))))
theorem okx_bases_from (F : FunD K "bases_from" "bases_from" (defArgs s_bases_from) (defBody s_bases_from) (defScope s_bases_from) dvs kws f fd) (c_X_need_track : KfX P w K mg base 3 "_need_track" (spX K mg 1 FX__need_track) []) (c__built : Kf P w K mg base 2 "_built" (spD K 2 F__built) []) : FnOk P w K mg base (L2N.CX P w) 4 f fd ["track"] (spX K mg 1 FY_bases_from) :=
  fnX F sc_bases_from rfl rfl fun cdv A outer s H E hr tk => (ssdx_cons (sdx_expr (edx_call c_X_need_track hr (by decide) dvs0 (orRx_len runF_len runX_len) tk (ad_cons (ed_var 0) ad_nil)))
  (ssdx_cons (SD.x (sd_ret (ed_call c__built hr (by decide) dvs0 runF_len (ad_cons (ed_var 0) (ad_cons ed_bl ad_nil)))))
  ssdx_nil))
theorem ok_bases_from (F : FunD K "bases_from" "bases_from" (defArgs s_bases_from) (defBody s_bases_from) (defScope s_bases_from) dvs kws f fd) (c__built : Kf P w K mg base 2 "_built" (spD K 2 F__built) []) (c__need_track : Kf P w K mg base 3 "_need_track" (spD K 1 F__need_track) []) : FnOk P w K mg base CX0 4 f fd ["track"] (spD K 1 F_bases_from) :=
  fnD F sc_bases_from rfl rfl fun cdv A outer s H E hr => (ssd_cons (sd_expr (ed_call c__need_track hr (by decide) dvs0 runF_len (ad_cons (ed_var 0) ad_nil)))
  (ssd_cons (sd_ret (ed_call c__built hr (by decide) dvs0 runF_len (ad_cons (ed_var 0) (ad_cons ed_bl ad_nil))))
  ssd_nil))
theorem okx_turns_of (B : Bi mg) (F : FunD K "turns_of" "turns_of" (defArgs s_turns_of) (defBody s_turns_of) (defScope s_turns_of) dvs kws f fd) (c_X_need_track : KfX P w K mg base 3 "_need_track" (spX K mg 1 FX__need_track) []) : FnOk P w K mg base (L2N.CX P w) 4 f fd ["track"] (spX K mg 1 FY_turns_of) :=
  fnX F sc_turns_of rfl rfl fun cdv A outer s H E hr tk => (ssdx_cons (sdx_expr (edx_call c_X_need_track hr (by decide) dvs0 (orRx_len runF_len runX_len) tk (ad_cons (ed_var 0) ad_nil)))
  (ssdx_cons (SD.x (sd_set 1 sc_turns_of.nd (ed_lst ad_nil)))
  (ssdx_cons (SD.x (sd_set 2 sc_turns_of.nd (ed_lst (ad_cons (ed_tup (ad_cons ed_int (ad_cons ed_int ad_nil))) ad_nil))))
  (ssdx_cons (SD.x (sd_for rfl (passes_of rfl) (id_txt (ed_var 0)) (gd_name (i := 3) sc_turns_of.nd rfl (by first | exact .inl rfl | exact .inr rfl))
  (ssd_cons (sd_asg (ed_pop0 2) (gd_tup rfl (gsd_cons (i := 4) sc_turns_of.nd rfl (by first | exact .inl rfl | exact .inr rfl) (gsd_cons (i := 5) sc_turns_of.nd rfl (by first | exact .inl rfl | exact .inr rfl) gsd_nil))))
  (ssd_cons (sd_if (td_cmp vb_eq (op_eqD hr.units) (nomark _) (ed_var 3) ed_str)
  (ssd_one (sd_expr (ed_app 1 (ed_tup (ad_cons (ed_var 4) (ad_cons (ed_var 5) ad_nil))))))
  (ssd_cons (sd_expr (ed_app 2 (ed_tup (ad_cons (ed_var 4) (ad_cons (ed_op vb_add op_add3 (ed_var 5) ed_int) ad_nil)))))
  (ssd_cons (sd_expr (ed_app 2 (ed_tup (ad_cons (ed_op vb_add op_add3 (ed_var 4) ed_int) (ad_cons (ed_var 5) ad_nil)))))
  ssd_nil)))
  ssd_nil))))
  (ssdx_cons (SD.x (sd_ret (ed_ct vc_tuple call_tuple_of B.tuple (ad_cons (ed_var 1) ad_nil))))
  ssdx_nil)))))
theorem ok_turns_of (B : Bi mg) (F : FunD K "turns_of" "turns_of" (defArgs s_turns_of) (defBody s_turns_of) (defScope s_turns_of) dvs kws f fd) (c__need_track : Kf P w K mg base 3 "_need_track" (spD K 1 F__need_track) []) : FnOk P w K mg base CX0 4 f fd ["track"] (spD K 1 F_turns_of) :=
  fnD F sc_turns_of rfl rfl fun cdv A outer s H E hr => (ssd_cons (sd_expr (ed_call c__need_track hr (by decide) dvs0 runF_len (ad_cons (ed_var 0) ad_nil)))
  (ssd_cons (sd_set 1 sc_turns_of.nd (ed_lst ad_nil))
  (ssd_cons (sd_set 2 sc_turns_of.nd (ed_lst (ad_cons (ed_tup (ad_cons ed_int (ad_cons ed_int ad_nil))) ad_nil)))
  (ssd_cons (sd_for rfl PassesOwn.never (id_txt (ed_var 0)) (gd_name (i := 3) sc_turns_of.nd rfl (by first | exact .inl rfl | exact .inr rfl))
  (ssd_cons (sd_asg (ed_pop0 2) (gd_tup rfl (gsd_cons (i := 4) sc_turns_of.nd rfl (by first | exact .inl rfl | exact .inr rfl) (gsd_cons (i := 5) sc_turns_of.nd rfl (by first | exact .inl rfl | exact .inr rfl) gsd_nil))))
  (ssd_cons (sd_if (td_cmp vb_eq (op_eqD hr.units) (nomark _) (ed_var 3) ed_str)
  (ssd_one (sd_expr (ed_app 1 (ed_tup (ad_cons (ed_var 4) (ad_cons (ed_var 5) ad_nil))))))
  (ssd_cons (sd_expr (ed_app 2 (ed_tup (ad_cons (ed_var 4) (ad_cons (ed_op vb_add op_add3 (ed_var 5) ed_int) ad_nil)))))
  (ssd_cons (sd_expr (ed_app 2 (ed_tup (ad_cons (ed_op vb_add op_add3 (ed_var 4) ed_int) (ad_cons (ed_var 5) ad_nil)))))
  ssd_nil)))
  ssd_nil)))
  (ssd_cons (sd_ret (ed_ct vc_tuple call_tuple_of B.tuple (ad_cons (ed_var 1) ad_nil)))
  ssd_nil)))))
theorem okx_track_of (B : Bi mg) (F : FunD K "track_of" "track_of" (defArgs s_track_of) (defBody s_track_of) (defScope s_track_of) dvs kws f fd) (c_Xneed_plan : KfX P w K mg base 4 "need_plan" (spX K mg 2 FX_need_plan) []) (c_ahead_and_behind : Kf P w K mg base 2 "ahead_and_behind" (spD K 1 F_ahead_and_behind) []) : FnOk P w K mg base (L2N.CX P w) 5 f fd ["bases"] (spX K mg 1 FY_track_of) :=
  fnX F sc_track_of rfl rfl fun cdv A outer s H E hr tk => (ssdx_cons (sdx_expr (edx_call c_Xneed_plan hr (by decide) dvs0 (orRx_len runF_len runX_len) tk (ad_cons ed_str (ad_cons (ed_var 0) ad_nil))))
  (ssdx_cons (SD.x (sd_set 1 sc_track_of.nd (ed_lst ad_nil)))
  (ssdx_cons (SD.x (sd_set 2 sc_track_of.nd (ed_lst (ad_cons (ed_var 0) ad_nil))))
  (ssdx_cons (SD.x (sd_while (fun _ => 300) (passes_of rfl) (td_cmp vq_gt (oq_gt hr.units) (nomark _) (ed_cb vc_len call_len_seq B.len (ad_cons (ed_var 2) ad_nil)) ed_int)
  (ssd_cons (sd_setF 3 sc_track_of.nd (ed_pop0 2))
  (ssd_cons (sd_if (td_cmp vb_eq (op_eqD hr.units) (nomark _) (ed_cb vc_len call_len_seq B.len (ad_cons (ed_var 3) ad_nil)) ed_int)
  (ssd_cons (sd_expr (ed_app 1 ed_str))
  (ssd_cons sd_continue
  ssd_nil))
  ssd_nil)
  (ssd_cons (sd_asg (ed_call c_ahead_and_behind hr (by decide) dvs0 runF_len (ad_cons (ed_var 3) ad_nil)) (gd_tup rfl (gsd_cons (i := 4) sc_track_of.nd rfl (by first | exact .inl rfl | exact .inr rfl) (gsd_cons (i := 5) sc_track_of.nd rfl (by first | exact .inl rfl | exact .inr rfl) gsd_nil))))
  (ssd_cons (sd_expr (ed_app 1 ed_str))
  (ssd_cons (sd_expr (ed_app 2 (ed_var 5)))
  (ssd_cons (sd_expr (ed_app 2 (ed_var 4)))
  ssd_nil))))))))
  (ssdx_cons (SD.x (SD.fz 1 (sd_ret (ed_join ed_str (ed_var 1)))))
  ssdx_nil)))))
theorem ok_track_of (B : Bi mg) (F : FunD K "track_of" "track_of" (defArgs s_track_of) (defBody s_track_of) (defScope s_track_of) dvs kws f fd) (c_ahead_and_behind : Kf P w K mg base 2 "ahead_and_behind" (spD K 1 F_ahead_and_behind) []) (c_need_plan : Kf P w K mg base 4 "need_plan" (spD K 2 F_need_plan) []) : FnOk P w K mg base CX0 5 f fd ["bases"] (spD K 1 F_track_of) :=
  fnD F sc_track_of rfl rfl fun cdv A outer s H E hr => (ssd_cons (sd_expr (ed_call c_need_plan hr (by decide) dvs0 runF_len (ad_cons ed_str (ad_cons (ed_var 0) ad_nil))))
  (ssd_cons (sd_set 1 sc_track_of.nd (ed_lst ad_nil))
  (ssd_cons (sd_set 2 sc_track_of.nd (ed_lst (ad_cons (ed_var 0) ad_nil)))
  (ssd_cons (sd_while (fun _ => 300) PassesOwn.never (td_cmp vq_gt (oq_gt hr.units) (nomark _) (ed_cb vc_len call_len_seq B.len (ad_cons (ed_var 2) ad_nil)) ed_int)
  (ssd_cons (sd_setF 3 sc_track_of.nd (ed_pop0 2))
  (ssd_cons (sd_if (td_cmp vb_eq (op_eqD hr.units) (nomark _) (ed_cb vc_len call_len_seq B.len (ad_cons (ed_var 3) ad_nil)) ed_int)
  (ssd_cons (sd_expr (ed_app 1 ed_str))
  (ssd_cons sd_continue
  ssd_nil))
  ssd_nil)
  (ssd_cons (sd_asg (ed_call c_ahead_and_behind hr (by decide) dvs0 runF_len (ad_cons (ed_var 3) ad_nil)) (gd_tup rfl (gsd_cons (i := 4) sc_track_of.nd rfl (by first | exact .inl rfl | exact .inr rfl) (gsd_cons (i := 5) sc_track_of.nd rfl (by first | exact .inl rfl | exact .inr rfl) gsd_nil))))
  (ssd_cons (sd_expr (ed_app 1 ed_str))
  (ssd_cons (sd_expr (ed_app 2 (ed_var 5)))
  (ssd_cons (sd_expr (ed_app 2 (ed_var 4)))
  ssd_nil)))))))
  (ssd_cons (SD.fz 1 (sd_ret (ed_join ed_str (ed_var 1))))
  ssd_nil)))))
theorem okx__need_changes (B : Bi mg) (XI : Xi K mg xcs xys xfs xtab) (XT_NotUsable : ExT P w K mg base "NotUsable" ["word", "at"]) (F : FunD K "_need_changes" "_need_changes" (defArgs s__need_changes) (defBody s__need_changes) (defScope s__need_changes) dvs kws f fd) (c_Xneed_plan : KfX P w K mg base 4 "need_plan" (spX K mg 2 FX_need_plan) []) : FnOk P w K mg base (L2N.CX P w) 5 f fd ["bases"] (spX K mg 1 FY__need_changes) :=
  fnX F sc__need_changes rfl rfl fun cdv A outer s H E hr tk => (ssdx_cons (sdx_expr (edx_call c_Xneed_plan hr (by decide) dvs0 (orRx_len runF_len runX_len) tk (ad_cons ed_str (ad_cons (ed_var 0) ad_nil))))
  (ssdx_cons (sdx_if (td_cmp vb_eq (op_eqD hr.units) (nomark _) (ed_cb vc_len call_len_seq B.len (ad_cons (ed_var 0) ad_nil)) ed_int)
  (ssdx_one (sdx_raise XT_NotUsable hr (by decide) rfl tk (ad_cons ed_str (ad_cons (ed_neg ed_int) ad_nil))))
  ssdx_nil)
  ssdx_nil))
theorem ok__need_changes (B : Bi mg) (F : FunD K "_need_changes" "_need_changes" (defArgs s__need_changes) (defBody s__need_changes) (defScope s__need_changes) dvs kws f fd) (c_need_plan : Kf P w K mg base 4 "need_plan" (spD K 2 F_need_plan) []) : FnOk P w K mg base CX0 5 f fd ["bases"] (spD K 1 F__need_changes) :=
  fnD F sc__need_changes rfl rfl fun cdv A outer s H E hr => (ssd_cons (sd_expr (ed_call c_need_plan hr (by decide) dvs0 runF_len (ad_cons ed_str (ad_cons (ed_var 0) ad_nil))))
  (ssd_cons (sd_if (td_cmp vb_eq (op_eqD hr.units) (nomark _) (ed_cb vc_len call_len_seq B.len (ad_cons (ed_var 0) ad_nil)) ed_int)
  (ssd_one sd_never)
  ssd_nil)
  ssd_nil))
theorem okx_joined_plans (F : FunD K "joined_plans" "joined_plans" (defArgs s_joined_plans) (defBody s_joined_plans) (defScope s_joined_plans) dvs kws f fd) (c_Xneed_plan : KfX P w K mg base 4 "need_plan" (spX K mg 2 FX_need_plan) []) (c_put_beside : Kf P w K mg base 1 "put_beside" (spD K 2 F_put_beside) []) : FnOk P w K mg base (L2N.CX P w) 5 f fd ["one", "other"] (spX K mg 2 FY_joined_plans) :=
  fnX F sc_joined_plans rfl rfl fun cdv A outer s H E hr tk => (ssdx_cons (sdx_expr (edx_call c_Xneed_plan hr (by decide) dvs0 (orRx_len runF_len runX_len) tk (ad_cons ed_str (ad_cons (ed_var 0) ad_nil))))
  (ssdx_cons (sdx_expr (edx_call c_Xneed_plan hr (by decide) dvs0 (orRx_len runF_len runX_len) tk (ad_cons ed_str (ad_cons (ed_var 1) ad_nil))))
  (ssdx_cons (SD.x (sd_ret (ed_call c_put_beside hr (by decide) dvs0 runF_len (ad_cons (ed_var 0) (ad_cons (ed_var 1) ad_nil)))))
  ssdx_nil)))
theorem ok_joined_plans (F : FunD K "joined_plans" "joined_plans" (defArgs s_joined_plans) (defBody s_joined_plans) (defScope s_joined_plans) dvs kws f fd) (c_need_plan : Kf P w K mg base 4 "need_plan" (spD K 2 F_need_plan) []) (c_put_beside : Kf P w K mg base 1 "put_beside" (spD K 2 F_put_beside) []) : FnOk P w K mg base CX0 5 f fd ["one", "other"] (spD K 2 F_joined_plans) :=
  fnD F sc_joined_plans rfl rfl fun cdv A outer s H E hr => (ssd_cons (sd_expr (ed_call c_need_plan hr (by decide) dvs0 runF_len (ad_cons ed_str (ad_cons (ed_var 0) ad_nil))))
  (ssd_cons (sd_expr (ed_call c_need_plan hr (by decide) dvs0 runF_len (ad_cons ed_str (ad_cons (ed_var 1) ad_nil))))
  (ssd_cons (sd_ret (ed_call c_put_beside hr (by decide) dvs0 runF_len (ad_cons (ed_var 0) (ad_cons (ed_var 1) ad_nil))))
  ssd_nil)))
theorem okx_line_reads (B : Bi mg) (F : FunD K "line_reads" "line_reads" (defArgs s_line_reads) (defBody s_line_reads) (defScope s_line_reads) dvs kws f fd) (c_Xneed_plan : KfX P w K mg base 4 "need_plan" (spX K mg 2 FX_need_plan) []) : FnOk P w K mg base (L2N.CX P w) 5 f fd ["bases"] (spX K mg 1 FY_line_reads) :=
  fnX F sc_line_reads rfl rfl fun cdv A outer s H E hr tk => (ssdx_cons (sdx_expr (edx_call c_Xneed_plan hr (by decide) dvs0 (orRx_len runF_len runX_len) tk (ad_cons ed_str (ad_cons (ed_var 0) ad_nil))))
  (ssdx_cons (SD.x (sd_set 1 sc_line_reads.nd (ed_lst (ad_cons ed_int ad_nil))))
  (ssdx_cons (SD.x (sd_for rfl (passes_of rfl) (id_seq (ed_var 0)) (gd_name (i := 2) sc_line_reads.nd rfl (by first | exact .inl rfl | exact .inr rfl))
  (ssd_one (sd_expr (ed_app 1 (ed_op vb_add op_add3 (ed_ix (ed_var 1) (ed_var 2)) ed_int))))))
  (ssdx_cons (SD.x (sd_ret (ed_ct vc_tuple call_tuple_of B.tuple (ad_cons (ed_var 1) ad_nil))))
  ssdx_nil))))
theorem ok_line_reads (B : Bi mg) (F : FunD K "line_reads" "line_reads" (defArgs s_line_reads) (defBody s_line_reads) (defScope s_line_reads) dvs kws f fd) (c_need_plan : Kf P w K mg base 4 "need_plan" (spD K 2 F_need_plan) []) : FnOk P w K mg base CX0 5 f fd ["bases"] (spD K 1 F_line_reads) :=
  fnD F sc_line_reads rfl rfl fun cdv A outer s H E hr => (ssd_cons (sd_expr (ed_call c_need_plan hr (by decide) dvs0 runF_len (ad_cons ed_str (ad_cons (ed_var 0) ad_nil))))
  (ssd_cons (sd_set 1 sc_line_reads.nd (ed_lst (ad_cons ed_int ad_nil)))
  (ssd_cons (sd_for rfl PassesOwn.never (id_seq (ed_var 0)) (gd_name (i := 2) sc_line_reads.nd rfl (by first | exact .inl rfl | exact .inr rfl))
  (ssd_one (sd_expr (ed_app 1 (ed_op vb_add op_add3 (ed_ix (ed_var 1) (ed_var 2)) ed_int)))))
  (ssd_cons (sd_ret (ed_ct vc_tuple call_tuple_of B.tuple (ad_cons (ed_var 1) ad_nil)))
  ssd_nil))))
theorem okx_line_writes (B : Bi mg) (F : FunD K "line_writes" "line_writes" (defArgs s_line_writes) (defBody s_line_writes) (defScope s_line_writes) dvs kws f fd) (c_Xneed_plan : KfX P w K mg base 4 "need_plan" (spX K mg 2 FX_need_plan) []) : FnOk P w K mg base (L2N.CX P w) 5 f fd ["bases"] (spX K mg 1 FY_line_writes) :=
  fnX F sc_line_writes rfl rfl fun cdv A outer s H E hr tk => (ssdx_cons (sdx_expr (edx_call c_Xneed_plan hr (by decide) dvs0 (orRx_len runF_len runX_len) tk (ad_cons ed_str (ad_cons (ed_var 0) ad_nil))))
  (ssdx_cons (SD.x (by first | exact sd_setLc 1 (own := [("_", 5)]) rfl sc_line_writes.nd (id_seq (ed_var 0)) (by first | decide | with_unfolding_all rfl) (by decide) (fun _ _ _ _ _ => (gd_name (i := 5) sc_line_writes.nd rfl (by first | exact .inl rfl | exact .inr rfl))) (fun _ _ _ _ _ => ptd_nil) (fun _ _ _ _ _ => ed_int) | exact sd_set 1 sc_line_writes.nd (ed_lc (own := [("_", 5)]) rfl sc_line_writes.nd (id_seq (ed_var 0)) (by first | decide | with_unfolding_all rfl) (by decide) (fun _ _ _ _ _ => (gd_name (i := 5) sc_line_writes.nd rfl (by first | exact .inl rfl | exact .inr rfl))) (fun _ _ _ _ _ => ptd_nil) (fun _ _ _ _ _ => ed_int))))
  (ssdx_cons (SD.x (sd_for rfl (passes_of rfl) (id_enumF (ed_var 0) B.enumerate) (gd_tup rfl (gsd_cons (i := 2) sc_line_writes.nd rfl (by first | exact .inl rfl | exact .inr rfl) (gsd_cons (i := 3) sc_line_writes.nd rfl (by first | exact .inl rfl | exact .inr rfl) gsd_nil)))
  (ssd_one (sd_for rfl (passes_of rfl) (id_rng2 (ed_var 3) (ed_var 2) B.range) (gd_name (i := 4) sc_line_writes.nd rfl (by first | exact .inl rfl | exact .inr rfl))
  (ssd_one (sd_augI (fun i j => i + j) ip_add 1 (ed_var 4) ed_int))))))
  (ssdx_cons (SD.x (sd_ret (ed_ct vc_tuple call_tuple_of B.tuple (ad_cons (ed_var 1) ad_nil))))
  ssdx_nil))))
theorem ok_line_writes (B : Bi mg) (F : FunD K "line_writes" "line_writes" (defArgs s_line_writes) (defBody s_line_writes) (defScope s_line_writes) dvs kws f fd) (c_need_plan : Kf P w K mg base 4 "need_plan" (spD K 2 F_need_plan) []) : FnOk P w K mg base CX0 5 f fd ["bases"] (spD K 1 F_line_writes) :=
  fnD F sc_line_writes rfl rfl fun cdv A outer s H E hr => (ssd_cons (sd_expr (ed_call c_need_plan hr (by decide) dvs0 runF_len (ad_cons ed_str (ad_cons (ed_var 0) ad_nil))))
  (ssd_cons (by first | exact sd_setLc 1 (own := [("_", 5)]) rfl sc_line_writes.nd (id_seq (ed_var 0)) (by first | decide | with_unfolding_all rfl) (by decide) (fun _ _ _ _ _ => (gd_name (i := 5) sc_line_writes.nd rfl (by first | exact .inl rfl | exact .inr rfl))) (fun _ _ _ _ _ => ptd_nil) (fun _ _ _ _ _ => ed_int) | exact sd_set 1 sc_line_writes.nd (ed_lc (own := [("_", 5)]) rfl sc_line_writes.nd (id_seq (ed_var 0)) (by first | decide | with_unfolding_all rfl) (by decide) (fun _ _ _ _ _ => (gd_name (i := 5) sc_line_writes.nd rfl (by first | exact .inl rfl | exact .inr rfl))) (fun _ _ _ _ _ => ptd_nil) (fun _ _ _ _ _ => ed_int)))
  (ssd_cons (sd_for rfl PassesOwn.never (id_enumF (ed_var 0) B.enumerate) (gd_tup rfl (gsd_cons (i := 2) sc_line_writes.nd rfl (by first | exact .inl rfl | exact .inr rfl) (gsd_cons (i := 3) sc_line_writes.nd rfl (by first | exact .inl rfl | exact .inr rfl) gsd_nil)))
  (ssd_one (sd_for rfl PassesOwn.never (id_rng2 (ed_var 3) (ed_var 2) B.range) (gd_name (i := 4) sc_line_writes.nd rfl (by first | exact .inl rfl | exact .inr rfl))
  (ssd_one (sd_augI (fun i j => i + j) ip_add 1 (ed_var 4) ed_int)))))
  (ssd_cons (sd_ret (ed_ct vc_tuple call_tuple_of B.tuple (ad_cons (ed_var 1) ad_nil)))
  ssd_nil))))
theorem okx_mirrored (F : FunD K "mirrored" "mirrored" (defArgs s_mirrored) (defBody s_mirrored) (defScope s_mirrored) dvs kws f fd) (c_Xtrack_of : KfX P w K mg base 5 "track_of" (spX K mg 1 FX_track_of) []) (c__built : Kf P w K mg base 2 "_built" (spD K 2 F__built) []) : FnOk P w K mg base (L2N.CX P w) 6 f fd ["bases"] (spX K mg 1 FY_mirrored) :=
  fnX F sc_mirrored rfl rfl fun cdv A outer s H E hr tk => (ssdx_one (sdx_ret (edx_callA c__built hr (by decide) dvs0 runF_len (adx_cons (edx_call c_Xtrack_of hr (by decide) dvs0 (orRx_len runF_len runX_len) tk (ad_cons (ed_var 0) ad_nil)) (AD.x (ad_cons ed_bl ad_nil))))))
theorem ok_mirrored (F : FunD K "mirrored" "mirrored" (defArgs s_mirrored) (defBody s_mirrored) (defScope s_mirrored) dvs kws f fd) (c__built : Kf P w K mg base 2 "_built" (spD K 2 F__built) []) (c_track_of : Kf P w K mg base 5 "track_of" (spD K 1 F_track_of) []) : FnOk P w K mg base CX0 6 f fd ["bases"] (spD K 1 F_mirrored) :=
  fnD F sc_mirrored rfl rfl fun cdv A outer s H E hr => (ssd_one (sd_ret (ed_call c__built hr (by decide) dvs0 runF_len (ad_cons (ed_call c_track_of hr (by decide) dvs0 runF_len (ad_cons (ed_var 0) ad_nil)) (ad_cons ed_bl ad_nil)))))
theorem okx_cut_of (F : FunD K "cut_of" "cut_of" (defArgs s_cut_of) (defBody s_cut_of) (defScope s_cut_of) dvs kws f fd) (c_X_need_changes : KfX P w K mg base 5 "_need_changes" (spX K mg 1 FX__need_changes) []) (c_last_full : Kf P w K mg base 1 "last_full" (spD K 1 F_last_full) []) : FnOk P w K mg base (L2N.CX P w) 6 f fd ["bases"] (spX K mg 1 FY_cut_of) :=
  fnX F sc_cut_of rfl rfl fun cdv A outer s H E hr tk => (ssdx_cons (sdx_expr (edx_call c_X_need_changes hr (by decide) dvs0 (orRx_len runF_len runX_len) tk (ad_cons (ed_var 0) ad_nil)))
  (ssdx_cons (SD.x (sd_ret (ed_call c_last_full hr (by decide) dvs0 runF_len (ad_cons (ed_var 0) ad_nil))))
  ssdx_nil))
theorem ok_cut_of (F : FunD K "cut_of" "cut_of" (defArgs s_cut_of) (defBody s_cut_of) (defScope s_cut_of) dvs kws f fd) (c__need_changes : Kf P w K mg base 5 "_need_changes" (spD K 1 F__need_changes) []) (c_last_full : Kf P w K mg base 1 "last_full" (spD K 1 F_last_full) []) : FnOk P w K mg base CX0 6 f fd ["bases"] (spD K 1 F_cut_of) :=
  fnD F sc_cut_of rfl rfl fun cdv A outer s H E hr => (ssd_cons (sd_expr (ed_call c__need_changes hr (by decide) dvs0 runF_len (ad_cons (ed_var 0) ad_nil)))
  (ssd_cons (sd_ret (ed_call c_last_full hr (by decide) dvs0 runF_len (ad_cons (ed_var 0) ad_nil)))
  ssd_nil))
theorem okx_parts_of (F : FunD K "parts_of" "parts_of" (defArgs s_parts_of) (defBody s_parts_of) (defScope s_parts_of) dvs kws f fd) (c_X_need_changes : KfX P w K mg base 5 "_need_changes" (spX K mg 1 FX__need_changes) []) (c_ahead_and_behind : Kf P w K mg base 2 "ahead_and_behind" (spD K 1 F_ahead_and_behind) []) : FnOk P w K mg base (L2N.CX P w) 6 f fd ["bases"] (spX K mg 1 FY_parts_of) :=
  fnX F sc_parts_of rfl rfl fun cdv A outer s H E hr tk => (ssdx_cons (sdx_expr (edx_call c_X_need_changes hr (by decide) dvs0 (orRx_len runF_len runX_len) tk (ad_cons (ed_var 0) ad_nil)))
  (ssdx_cons (SD.x (sd_ret (ed_call c_ahead_and_behind hr (by decide) dvs0 runF_len (ad_cons (ed_var 0) ad_nil))))
  ssdx_nil))
theorem ok_parts_of (F : FunD K "parts_of" "parts_of" (defArgs s_parts_of) (defBody s_parts_of) (defScope s_parts_of) dvs kws f fd) (c__need_changes : Kf P w K mg base 5 "_need_changes" (spD K 1 F__need_changes) []) (c_ahead_and_behind : Kf P w K mg base 2 "ahead_and_behind" (spD K 1 F_ahead_and_behind) []) : FnOk P w K mg base CX0 6 f fd ["bases"] (spD K 1 F_parts_of) :=
  fnD F sc_parts_of rfl rfl fun cdv A outer s H E hr => (ssd_cons (sd_expr (ed_call c__need_changes hr (by decide) dvs0 runF_len (ad_cons (ed_var 0) ad_nil)))
  (ssd_cons (sd_ret (ed_call c_ahead_and_behind hr (by decide) dvs0 runF_len (ad_cons (ed_var 0) ad_nil)))
  ssd_nil))
theorem ok__law_ask_two (XI : Xi K mg xcs xys xfs xtab) (F : FunD K "_law_ask_two" "_law_ask_two" (defArgs s__law_ask_two) (defBody s__law_ask_two) (defScope s__law_ask_two) dvs kws f fd) (c_Xjoined_plans : KfX P w K mg base 5 "joined_plans" (spX K mg 2 FX_joined_plans) []) : FnOk P w K mg base CX0 6 f fd ["_law_left", "_law_right"] (spD K 2 F__law_ask_two) :=
  fnD F sc__law_ask_two rfl rfl fun cdv A outer s H E hr => (ssd_one (sd_tryT rfl rfl sc__law_ask_two.nd (i := 2) (XI.sub "NotUsable") (fun W2 pn xe tk hp =>
  (ssdx_one (sdx_ret (edx_tup (adx_cons (ED.x ed_str) (adx_cons (edx_call c_Xjoined_plans hr (by decide) dvs0 (orRx_len runF_len runX_len) tk (ad_cons (ed_var 0) (ad_cons (ed_var 1) ad_nil))) (AD.x ad_nil))))))) (fun k C a dd oe pn hk hz hf =>
  (ssd_one (sd_ret (ed_tup (ad_cons ed_str (ad_cons (ed_fld (XI.fld "word") hk hz.zc hf) (ad_cons (ed_fld (XI.fld "at") hk hz.zc hf) ad_nil)))))))))
theorem ok__law_ask (XI : Xi K mg xcs xys xfs xtab) (F : FunD K "_law_ask" "_law_ask" (defArgs s__law_ask) (defBody s__law_ask) (defScope s__law_ask) dvs kws f fd) (c_Xbases_from : KfX P w K mg base 4 "bases_from" (spX K mg 1 FX_bases_from) []) (c_Xcut_of : KfX P w K mg base 6 "cut_of" (spX K mg 1 FX_cut_of) []) (c_Xline_reads : KfX P w K mg base 5 "line_reads" (spX K mg 1 FX_line_reads) []) (c_Xline_writes : KfX P w K mg base 5 "line_writes" (spX K mg 1 FX_line_writes) []) (c_Xmirrored : KfX P w K mg base 6 "mirrored" (spX K mg 1 FX_mirrored) []) (c_Xparts_of : KfX P w K mg base 6 "parts_of" (spX K mg 1 FX_parts_of) []) (c_Xtrack_of : KfX P w K mg base 5 "track_of" (spX K mg 1 FX_track_of) []) (c_Xturns_of : KfX P w K mg base 4 "turns_of" (spX K mg 1 FX_turns_of) []) : FnOk P w K mg base CX0 7 f fd ["_law_which", "_law_value"] (spD K 2 F__law_ask) :=
  fnD F sc__law_ask rfl rfl fun cdv A outer s H E hr => (ssd_one (sd_tryT rfl rfl sc__law_ask.nd (i := 2) (XI.sub "NotUsable") (fun W2 pn xe tk hp =>
  (ssdx_cons (sdx_if (td_cmp vb_eq (op_eqD hr.units) (nomark _) (ed_var 0) ed_int)
  (ssdx_one (sdx_ret (edx_tup (adx_cons (ED.x ed_str) (adx_cons (edx_call c_Xtrack_of hr (by decide) dvs0 (orRx_len runF_len runX_len) tk (ad_cons (ed_var 1) ad_nil)) (AD.x ad_nil))))))
  ssdx_nil)
  (ssdx_cons (sdx_if (td_cmp vb_eq (op_eqD hr.units) (nomark _) (ed_var 0) ed_int)
  (ssdx_one (sdx_ret (edx_tup (adx_cons (ED.x ed_str) (adx_cons (edx_call c_Xmirrored hr (by decide) dvs0 (orRx_len runF_len runX_len) tk (ad_cons (ed_var 1) ad_nil)) (AD.x ad_nil))))))
  ssdx_nil)
  (ssdx_cons (sdx_if (td_cmp vb_eq (op_eqD hr.units) (nomark _) (ed_var 0) ed_int)
  (ssdx_one (sdx_ret (edx_tup (adx_cons (ED.x ed_str) (adx_cons (edx_call c_Xline_reads hr (by decide) dvs0 (orRx_len runF_len runX_len) tk (ad_cons (ed_var 1) ad_nil)) (AD.x ad_nil))))))
  ssdx_nil)
  (ssdx_cons (sdx_if (td_cmp vb_eq (op_eqD hr.units) (nomark _) (ed_var 0) ed_int)
  (ssdx_one (sdx_ret (edx_tup (adx_cons (ED.x ed_str) (adx_cons (edx_call c_Xline_writes hr (by decide) dvs0 (orRx_len runF_len runX_len) tk (ad_cons (ed_var 1) ad_nil)) (AD.x ad_nil))))))
  ssdx_nil)
  (ssdx_cons (sdx_if (td_cmp vb_eq (op_eqD hr.units) (nomark _) (ed_var 0) ed_int)
  (ssdx_one (sdx_ret (edx_tup (adx_cons (ED.x ed_str) (adx_cons (edx_call c_Xcut_of hr (by decide) dvs0 (orRx_len runF_len runX_len) tk (ad_cons (ed_var 1) ad_nil)) (AD.x ad_nil))))))
  ssdx_nil)
  (ssdx_cons (sdx_if (td_cmp vb_eq (op_eqD hr.units) (nomark _) (ed_var 0) ed_int)
  (ssdx_one (sdx_ret (edx_tup (adx_cons (ED.x ed_str) (adx_cons (edx_call c_Xparts_of hr (by decide) dvs0 (orRx_len runF_len runX_len) tk (ad_cons (ed_var 1) ad_nil)) (AD.x ad_nil))))))
  ssdx_nil)
  (ssdx_cons (sdx_if (td_cmp vb_eq (op_eqD hr.units) (nomark _) (ed_var 0) ed_int)
  (ssdx_one (sdx_ret (edx_tup (adx_cons (ED.x ed_str) (adx_cons (edx_call c_Xbases_from hr (by decide) dvs0 (orRx_len runF_len runX_len) tk (ad_cons (ed_var 1) ad_nil)) (AD.x ad_nil))))))
  ssdx_nil)
  (ssdx_cons (sdx_ret (edx_tup (adx_cons (ED.x ed_str) (adx_cons (edx_call c_Xturns_of hr (by decide) dvs0 (orRx_len runF_len runX_len) tk (ad_cons (ed_var 1) ad_nil)) (AD.x ad_nil)))))
  ssdx_nil))))))))) (fun k C a dd oe pn hk hz hf =>
  (ssd_one (sd_ret (ed_tup (ad_cons ed_str (ad_cons (ed_fld (XI.fld "word") hk hz.zc hf) (ad_cons (ed_fld (XI.fld "at") hk hz.zc hf) ad_nil)))))))))
theorem ok__law_same (B : Bi mg) (F : FunD K "_law_same" "_law_same" (defArgs s__law_same) (defBody s__law_same) (defScope s__law_same) dvs kws f fd) (hc : ∀ {k : Nat} {sp : Sp}, FnOk P w K mg base CX0 k f fd ["_law_told", "_law_due"] sp → Kf P w K mg base k "_law_same" sp []) : ∀ N, FnOk P w K mg base CX0 (1 + N) f fd ["_law_told", "_law_due"] (spD K 2 (R__law_same N)) := by
  intro N
  induction N with
  | zero => exact fn_void
  | succ N ih =>
    have c__law_same := hc ih
    exact fnD F sc__law_same rfl rfl fun cdv A outer s H E hr => (ssd_cons (sd_if (td_val (ed_isi .tuple (ed_var 1) B.isinstance B.tuple))
  (ssd_cons (sd_if (WD.td (wd_or (td_not (td_val (ed_isi .tuple (ed_var 0) B.isinstance B.tuple))) (wd_or1 (td_cmp vb_ne (op_neD hr.units) (nomark _) (ed_cb vc_len call_len_seq B.len (ad_cons (ed_var 0) ad_nil)) (ed_cb vc_len call_len_seq B.len (ad_cons (ed_var 1) ad_nil))))))
  (ssd_one (sd_ret ed_bl))
  ssd_nil)
  (ssd_cons (sd_for rfl PassesOwn.never (id_zip (ed_var 0) (ed_var 1) B.zip) (gd_tup rfl (gsd_cons (i := 2) sc__law_same.nd rfl (by first | exact .inl rfl | exact .inr rfl) (gsd_cons (i := 3) sc__law_same.nd rfl (by first | exact .inl rfl | exact .inr rfl) gsd_nil)))
  (ssd_one (sd_if (td_not (td_val (ed_call c__law_same hr (Nat.le_refl _) dvs0 (len__law_same N) (ad_cons (ed_var 2) (ad_cons (ed_var 3) ad_nil)))))
  (ssd_one (sd_ret ed_bl))
  ssd_nil)))
  (ssd_cons (sd_ret ed_bl)
  ssd_nil)))
  ssd_nil)
  (ssd_cons (sd_if (td_val (ed_isi .bool (ed_var 1) B.isinstance B.bool))
  (ssd_one (sd_ret (ed_and (ed_isi .bool (ed_var 0) B.isinstance B.bool) (ed_one (ed_cmp vb_eq (op_eqD hr.units) (nomark _) (ed_var 0) (ed_var 1))))))
  ssd_nil)
  (ssd_cons (sd_if (td_val (ed_isi .int (ed_var 1) B.isinstance B.int))
  (ssd_one (sd_ret (ed_and (ed_isi .int (ed_var 0) B.isinstance B.int) (ed_and (ed_not (ed_isi .bool (ed_var 0) B.isinstance B.bool)) (ed_one (ed_cmp vb_eq (op_eqD hr.units) (nomark _) (ed_var 0) (ed_var 1)))))))
  ssd_nil)
  (ssd_cons (sd_ret (ed_and (ed_isi .str (ed_var 0) B.isinstance B.str) (ed_and (ed_isi .str (ed_var 1) B.isinstance B.str) (ed_one (ed_cmp vb_eq (op_eqD hr.units) (nomark _) (ed_var 0) (ed_var 1))))))
  ssd_nil))))
theorem ok__law_plan_holds (B : Bi mg) (F : FunD K "_law_plan_holds" "_law_plan_holds" (defArgs s__law_plan_holds) (defBody s__law_plan_holds) (defScope s__law_plan_holds) dvs kws f fd) (c__law_ask : Kf P w K mg base 7 "_law_ask" (spD K 2 F__law_ask) []) (c__law_buds : Kf P w K mg base 1 "_law_buds" (spD K 1 F__law_buds) []) (c__law_by_reads : Kf P w K mg base 1 "_law_by_reads" (spD K 1 F__law_by_reads) []) (c__law_reads : Kf P w K mg base 1 "_law_reads" (spD K 1 F__law_reads) []) (c__law_same : Kf P w K mg base 25 "_law_same" (spD K 2 F__law_same) []) (c__law_writes : Kf P w K mg base 1 "_law_writes" (spD K 1 F__law_writes) []) (c_bases_from : Kf P w K mg base 4 "bases_from" (spD K 1 F_bases_from) []) (c_cut_of : Kf P w K mg base 6 "cut_of" (spD K 1 F_cut_of) []) (c_cut_of_kw0_0 : KfK P w K mg base 6 "cut_of" (spD K 1 F_cut_of) 0 ["bases"] [0]) (c_is_line_plan : Kf P w K mg base 4 "is_line_plan" (spD K 1 F_is_line_plan) []) (c_joined_plans : Kf P w K mg base 5 "joined_plans" (spD K 2 F_joined_plans) []) (c_line_reads : Kf P w K mg base 5 "line_reads" (spD K 1 F_line_reads) []) (c_line_reads_kw0_0 : KfK P w K mg base 5 "line_reads" (spD K 1 F_line_reads) 0 ["bases"] [0]) (c_line_writes : Kf P w K mg base 5 "line_writes" (spD K 1 F_line_writes) []) (c_line_writes_kw0_0 : KfK P w K mg base 5 "line_writes" (spD K 1 F_line_writes) 0 ["bases"] [0]) (c_mirrored : Kf P w K mg base 6 "mirrored" (spD K 1 F_mirrored) []) (c_parts_of : Kf P w K mg base 6 "parts_of" (spD K 1 F_parts_of) []) (c_parts_of_kw0_0 : KfK P w K mg base 6 "parts_of" (spD K 1 F_parts_of) 0 ["bases"] [0]) (c_track_of : Kf P w K mg base 5 "track_of" (spD K 1 F_track_of) []) (c_turns_of : Kf P w K mg base 4 "turns_of" (spD K 1 F_turns_of) []) : FnOk P w K mg base CX0 26 f fd ["_law_found"] (spD K 1 F__law_plan_holds) :=
  fnD F sc__law_plan_holds rfl rfl fun cdv A outer s H E hr => (ssd_cons (sd_setF 1 sc__law_plan_holds.nd (ed_cb vc_len call_len_seq B.len (ad_cons (ed_var 0) ad_nil)))
  (ssd_cons (sd_setF 2 sc__law_plan_holds.nd (ed_call c__law_reads hr (by decide) dvs0 runF_len (ad_cons (ed_var 0) ad_nil)))
  (ssd_cons (sd_setF 3 sc__law_plan_holds.nd (ed_call c__law_writes hr (by decide) dvs0 runF_len (ad_cons (ed_var 0) ad_nil)))
  (ssd_cons (sd_setF 4 sc__law_plan_holds.nd (ed_ct vc_tuple call_tuple_of B.tuple (ad_cons (ed_lc (own := [("_law_k", 10)]) rfl sc__law_plan_holds.nd (id_rng1 (ed_op vb_add op_add3 (ed_var 1) ed_int) B.range) (by first | decide | with_unfolding_all rfl) (by decide) (fun _ _ _ _ _ => (gd_name (i := 10) sc__law_plan_holds.nd rfl (by first | exact .inl rfl | exact .inr rfl))) (fun _ _ _ _ _ => ptd_nil) (fun _ _ _ _ _ => (ed_tup (ad_cons (ed_ix (ed_op vb_add op_add3 (ed_var 3) (ed_lst (ad_cons ed_int ad_nil))) (ed_var 10)) (ad_cons (ed_ix (ed_var 2) (ed_var 10)) ad_nil))))) ad_nil)))
  (ssd_cons (sd_setF 5 sc__law_plan_holds.nd (ed_call c_track_of hr (by decide) dvs0 runF_len (ad_cons (ed_var 0) ad_nil)))
  (ssd_cons (sd_if (WD.td (wd_or (td_not (td_val (ed_call c__law_same hr (by decide) dvs0 (len__law_same 24) (ad_cons (ed_call c_is_line_plan hr (by decide) dvs0 runF_len (ad_cons (ed_var 0) ad_nil)) (ad_cons ed_bl ad_nil))))) (wd_or (td_not (td_val (ed_isi .str (ed_var 5) B.isinstance B.str))) (wd_or1 (td_cmp vb_ne (op_neD hr.units) (nomark _) (ed_call c__law_buds hr (by decide) dvs0 runF_len (ad_cons (ed_var 5) ad_nil)) (ed_var 4))))))
  (ssd_one (sd_ret ed_bl))
  ssd_nil)
  (ssd_cons (sd_if (WD.td (wd_or (td_not (td_val (ed_call c__law_same hr (by decide) dvs0 (len__law_same 24) (ad_cons (ed_call c_turns_of hr (by decide) dvs0 runF_len (ad_cons (ed_var 5) ad_nil)) (ad_cons (ed_var 4) ad_nil))))) (wd_or1 (td_not (td_val (ed_call c__law_same hr (by decide) dvs0 (len__law_same 24) (ad_cons (ed_call c_bases_from hr (by decide) dvs0 runF_len (ad_cons (ed_var 5) ad_nil)) (ad_cons (ed_var 0) ad_nil))))))))
  (ssd_one (sd_ret ed_bl))
  ssd_nil)
  (ssd_cons (sd_setF 6 sc__law_plan_holds.nd (ed_call c__law_by_reads hr (by decide) dvs0 runF_len (ad_cons (ed_op vb_add op_add3 (ed_lst (ad_cons ed_int ad_nil)) (ed_lc (own := [("_law_k", 10)]) rfl sc__law_plan_holds.nd (id_rng2 ed_int (ed_op vb_add op_add3 (ed_var 1) ed_int) B.range) (by first | decide | with_unfolding_all rfl) (by decide) (fun _ _ _ _ _ => (gd_name (i := 10) sc__law_plan_holds.nd rfl (by first | exact .inl rfl | exact .inr rfl))) (fun _ _ _ _ _ => ptd_nil) (fun _ _ _ _ _ => (ed_ix (ed_var 3) (ed_op vb_sub op_sub (ed_var 1) (ed_var 10)))))) ad_nil)))
  (ssd_cons (sd_if (WD.td (wd_or (td_not (td_val (ed_call c__law_same hr (by decide) dvs0 (len__law_same 24) (ad_cons (ed_call c_mirrored hr (by decide) dvs0 runF_len (ad_cons (ed_var 0) ad_nil)) (ad_cons (ed_var 6) ad_nil))))) (wd_or1 (td_not (td_val (ed_call c__law_same hr (by decide) dvs0 (len__law_same 24) (ad_cons (ed_call c_mirrored hr (by decide) dvs0 runF_len (ad_cons (ed_var 6) ad_nil)) (ad_cons (ed_var 0) ad_nil))))))))
  (ssd_one (sd_ret ed_bl))
  ssd_nil)
  (ssd_cons (sd_if (WD.td (wd_or (td_not (td_val (ed_call c__law_same hr (by decide) dvs0 (len__law_same 24) (ad_cons (ed_call c_line_reads hr (by decide) dvs0 runF_len (ad_cons (ed_var 0) ad_nil)) (ad_cons (ed_ct vc_tuple call_tuple_of B.tuple (ad_cons (ed_var 2) ad_nil)) ad_nil))))) (wd_or1 (td_not (td_val (ed_call c__law_same hr (by decide) dvs0 (len__law_same 24) (ad_cons (ed_call c_line_writes hr (by decide) dvs0 runF_len (ad_cons (ed_var 0) ad_nil)) (ad_cons (ed_ct vc_tuple call_tuple_of B.tuple (ad_cons (ed_var 3) ad_nil)) ad_nil))))))))
  (ssd_one (sd_ret ed_bl))
  ssd_nil)
  (ssd_cons (sd_if (td_cmp vb_eq (op_eqD hr.units) (nomark _) (ed_var 1) ed_int)
  (ssd_one (sd_ret (ed_and (ed_cmp vb_eq (op_eqD hr.units) (nomark _) (ed_call c__law_ask hr (by decide) dvs0 runF_len (ad_cons ed_int (ad_cons (ed_tup ad_nil) ad_nil))) (ed_tup (ad_cons ed_str (ad_cons ed_str (ad_cons (ed_neg ed_int) ad_nil))))) (ed_one (ed_cmp vb_eq (op_eqD hr.units) (nomark _) (ed_call c__law_ask hr (by decide) dvs0 runF_len (ad_cons ed_int (ad_cons (ed_tup ad_nil) ad_nil))) (ed_tup (ad_cons ed_str (ad_cons ed_str (ad_cons (ed_neg ed_int) ad_nil)))))))))
  ssd_nil)
  (ssd_cons (sd_setF 7 sc__law_plan_holds.nd (ed_cb vc_maxB (cr_maxB rfl hr.units) B.max (ad_cons (ed_lc (own := [("_law_v", 11)]) rfl sc__law_plan_holds.nd (id_rng2 ed_int (ed_op vb_add op_add3 (ed_var 1) ed_int) B.range) (by first | decide | with_unfolding_all rfl) (by decide) (fun _ _ _ _ _ => (gd_name (i := 11) sc__law_plan_holds.nd rfl (by first | exact .inl rfl | exact .inr rfl))) (fun _ _ _ _ _ => (ptd_one (td_cmp vb_eq (op_eqD hr.units) (nomark _) (ed_ix (ed_var 2) (ed_var 11)) ed_int))) (fun _ _ _ _ _ => (ed_var 11))) ad_nil)))
  (ssd_cons (sd_setF 8 sc__law_plan_holds.nd (ed_call c__law_by_reads hr (by decide) dvs0 runF_len (ad_cons (ed_sl (ed_var 2) od_no (od_at (ed_var 7))) ad_nil)))
  (ssd_cons (sd_setF 9 sc__law_plan_holds.nd (ed_call c__law_by_reads hr (by decide) dvs0 runF_len (ad_cons (ed_op vb_add op_add3 (ed_lst (ad_cons ed_int ad_nil)) (ed_lc (own := [("_law_r", 12)]) rfl sc__law_plan_holds.nd (id_seq (ed_sl (ed_var 2) (od_at (ed_op vb_add op_add3 (ed_var 7) ed_int)) od_no)) (by first | decide | with_unfolding_all rfl) (by decide) (fun _ _ _ _ _ => (gd_name (i := 12) sc__law_plan_holds.nd rfl (by first | exact .inl rfl | exact .inr rfl))) (fun _ _ _ _ _ => ptd_nil) (fun _ _ _ _ _ => (ed_op vb_sub op_sub (ed_var 12) ed_int)))) ad_nil)))
  (ssd_cons (sd_if (WD.td (wd_or (td_not (td_val (ed_call c__law_same hr (by decide) dvs0 (len__law_same 24) (ad_cons (ed_call c_cut_of hr (by decide) dvs0 runF_len (ad_cons (ed_var 0) ad_nil)) (ad_cons (ed_var 7) ad_nil))))) (wd_or1 (td_not (td_val (ed_call c__law_same hr (by decide) dvs0 (len__law_same 24) (ad_cons (ed_call c_parts_of hr (by decide) dvs0 runF_len (ad_cons (ed_var 0) ad_nil)) (ad_cons (ed_tup (ad_cons (ed_var 8) (ad_cons (ed_var 9) ad_nil))) ad_nil))))))))
  (ssd_one (sd_ret ed_bl))
  ssd_nil)
  (ssd_cons (sd_if (WD.td (wd_or (td_not (td_val (ed_call c__law_same hr (by decide) dvs0 (len__law_same 24) (ad_cons (ed_callK0 c_cut_of_kw0_0 hr (by decide) runF_len (kd_cons (ed_var 0) kd_nil) (len_cons len_nil)) (ad_cons (ed_var 7) ad_nil))))) (wd_or1 (td_not (td_val (ed_call c__law_same hr (by decide) dvs0 (len__law_same 24) (ad_cons (ed_callK0 c_parts_of_kw0_0 hr (by decide) runF_len (kd_cons (ed_var 0) kd_nil) (len_cons len_nil)) (ad_cons (ed_tup (ad_cons (ed_var 8) (ad_cons (ed_var 9) ad_nil))) ad_nil))))))))
  (ssd_one (sd_ret ed_bl))
  ssd_nil)
  (ssd_cons (sd_if (td_not (td_val (ed_call c__law_same hr (by decide) dvs0 (len__law_same 24) (ad_cons (ed_callK0 c_line_reads_kw0_0 hr (by decide) runF_len (kd_cons (ed_var 0) kd_nil) (len_cons len_nil)) (ad_cons (ed_ct vc_tuple call_tuple_of B.tuple (ad_cons (ed_var 2) ad_nil)) ad_nil)))))
  (ssd_one (sd_ret ed_bl))
  ssd_nil)
  (ssd_cons (sd_if (td_not (td_val (ed_call c__law_same hr (by decide) dvs0 (len__law_same 24) (ad_cons (ed_callK0 c_line_writes_kw0_0 hr (by decide) runF_len (kd_cons (ed_var 0) kd_nil) (len_cons len_nil)) (ad_cons (ed_ct vc_tuple call_tuple_of B.tuple (ad_cons (ed_var 3) ad_nil)) ad_nil)))))
  (ssd_one (sd_ret ed_bl))
  ssd_nil)
  (ssd_cons (sd_ret (ed_call c__law_same hr (by decide) dvs0 (len__law_same 24) (ad_cons (ed_call c_joined_plans hr (by decide) dvs0 runF_len (ad_cons (ed_var 8) (ad_cons (ed_var 9) ad_nil))) (ad_cons (ed_var 0) ad_nil))))
  ssd_nil)))))))))))))))))))
theorem ok__law_sign_holds (F : FunD K "_law_sign_holds" "_law_sign_holds" (defArgs s__law_sign_holds) (defBody s__law_sign_holds) (defScope s__law_sign_holds) dvs kws f fd) (c__law_ask : Kf P w K mg base 7 "_law_ask" (spD K 2 F__law_ask) []) (c__law_buds : Kf P w K mg base 1 "_law_buds" (spD K 1 F__law_buds) []) (c__law_by_reads : Kf P w K mg base 1 "_law_by_reads" (spD K 1 F__law_by_reads) []) (c__law_same : Kf P w K mg base 25 "_law_same" (spD K 2 F__law_same) []) (c_is_track : Kf P w K mg base 1 "is_track" (spD K 1 F_is_track) []) (c_track_of : Kf P w K mg base 5 "track_of" (spD K 1 F_track_of) []) : FnOk P w K mg base CX0 26 f fd ["_law_text"] (spD K 1 F__law_sign_holds) :=
  fnD F sc__law_sign_holds rfl rfl fun cdv A outer s H E hr => (ssd_cons (sd_setF 1 sc__law_sign_holds.nd (ed_call c__law_buds hr (by decide) dvs0 runF_len (ad_cons (ed_var 0) ad_nil)))
  (ssd_cons (sd_if (td_not (td_val (ed_call c__law_same hr (by decide) dvs0 (len__law_same 24) (ad_cons (ed_call c_is_track hr (by decide) dvs0 runF_len (ad_cons (ed_var 0) ad_nil)) (ad_cons (ed_cmp vb_isnot op_isnot2 (nomark _) (ed_var 1) ed_non) ad_nil)))))
  (ssd_one (sd_ret ed_bl))
  ssd_nil)
  (ssd_cons (sd_if (td_cmp vb_is op_is2 (nomark _) (ed_var 1) ed_non)
  (ssd_one (sd_ret (ed_and (ed_cmp vb_eq (op_eqD hr.units) (nomark _) (ed_call c__law_ask hr (by decide) dvs0 runF_len (ad_cons ed_int (ad_cons (ed_var 0) ad_nil))) (ed_tup (ad_cons ed_str (ad_cons ed_str (ad_cons (ed_neg ed_int) ad_nil))))) (ed_one (ed_cmp vb_eq (op_eqD hr.units) (nomark _) (ed_call c__law_ask hr (by decide) dvs0 runF_len (ad_cons ed_int (ad_cons (ed_var 0) ad_nil))) (ed_tup (ad_cons ed_str (ad_cons ed_str (ad_cons (ed_neg ed_int) ad_nil)))))))))
  ssd_nil)
  (ssd_cons (sd_setF 2 sc__law_sign_holds.nd (ed_call c__law_by_reads hr (by decide) dvs0 runF_len (ad_cons (ed_lc (own := [("_law_pair", 3)]) rfl sc__law_sign_holds.nd (id_seq (ed_var 1)) (by first | decide | with_unfolding_all rfl) (by decide) (fun _ _ _ _ _ => (gd_name (i := 3) sc__law_sign_holds.nd rfl (by first | exact .inl rfl | exact .inr rfl))) (fun _ _ _ _ _ => ptd_nil) (fun _ _ _ _ _ => (ed_ix (ed_var 3) ed_int))) ad_nil)))
  (ssd_cons (sd_if (WD.td (wd_or (td_not (td_val (ed_call c__law_same hr (by decide) dvs0 (len__law_same 24) (ad_cons (ed_call c__law_ask hr (by decide) dvs0 runF_len (ad_cons ed_int (ad_cons (ed_var 0) ad_nil))) (ad_cons (ed_tup (ad_cons ed_str (ad_cons (ed_var 2) ad_nil))) ad_nil))))) (wd_or1 (td_not (td_val (ed_call c__law_same hr (by decide) dvs0 (len__law_same 24) (ad_cons (ed_call c__law_ask hr (by decide) dvs0 runF_len (ad_cons ed_int (ad_cons (ed_var 0) ad_nil))) (ad_cons (ed_tup (ad_cons ed_str (ad_cons (ed_var 1) ad_nil))) ad_nil))))))))
  (ssd_one (sd_ret ed_bl))
  ssd_nil)
  (ssd_cons (sd_ret (ed_call c__law_same hr (by decide) dvs0 (len__law_same 24) (ad_cons (ed_call c_track_of hr (by decide) dvs0 runF_len (ad_cons (ed_var 2) ad_nil)) (ad_cons (ed_var 0) ad_nil))))
  ssd_nil))))))
theorem ok__law_refused (B : Bi mg) (F : FunD K "_law_refused" "_law_refused" (defArgs s__law_refused) (defBody s__law_refused) (defScope s__law_refused) dvs kws f fd) (c__law_ask : Kf P w K mg base 7 "_law_ask" (spD K 2 F__law_ask) []) (c__law_ask_two : Kf P w K mg base 6 "_law_ask_two" (spD K 2 F__law_ask_two) []) (c__law_same : Kf P w K mg base 25 "_law_same" (spD K 2 F__law_same) []) (c_is_line_plan : Kf P w K mg base 4 "is_line_plan" (spD K 1 F_is_line_plan) []) (c_is_track : Kf P w K mg base 1 "is_track" (spD K 1 F_is_track) []) : FnOk P w K mg base CX0 26 f fd ["_law_found", "_law_k"] (spD K 2 F__law_refused) :=
  fnD F sc__law_refused rfl rfl fun cdv A outer s H E hr => (ssd_cons (sd_setF 2 sc__law_refused.nd (ed_cb vc_len call_len_seq B.len (ad_cons (ed_var 0) ad_nil)))
  (ssd_cons (sd_setF 3 sc__law_refused.nd (ed_lst (ad_cons (ed_ct vc_list call_list_of B.list (ad_cons (ed_var 0) ad_nil)) (ad_cons ed_non (ad_cons ed_str (ad_cons ed_int (ad_cons (ed_op vb_add op_add3 (ed_var 0) (ed_tup (ad_cons ed_bl ad_nil))) (ad_cons (ed_op vb_add op_add3 (ed_var 0) (ed_tup (ad_cons (ed_neg ed_int) ad_nil))) (ad_cons (ed_op vb_add op_add3 (ed_var 0) (ed_tup (ad_cons (ed_op vb_add op_add3 (ed_var 2) ed_int) ad_nil))) (ad_cons (ed_op vb_add op_add3 (ed_var 0) (ed_tup (ad_cons ed_str ad_nil))) (ad_cons (ed_tup (ad_cons (ed_tup (ad_cons ed_int ad_nil)) ad_nil)) (ad_cons (ed_op vb_add op_add3 (ed_tup (ad_cons ed_bl ad_nil)) (ed_sl (ed_var 0) (od_at ed_int) od_no)) (ad_cons (ed_op vb_add op_add3 (ed_var 0) (ed_tup (ad_cons ed_non ad_nil))) (ad_cons (ed_tup (ad_cons ed_int (ad_cons ed_bl (ad_cons ed_int ad_nil)))) (ad_cons (ed_tup (ad_cons ed_int (ad_cons ed_int (ad_cons ed_bl (ad_cons ed_int ad_nil))))) ad_nil)))))))))))))))
  (ssd_cons (sd_for rfl PassesOwn.never (id_seq (ed_var 3)) (gd_name (i := 4) sc__law_refused.nd rfl (by first | exact .inl rfl | exact .inr rfl))
  (ssd_one (sd_if (td_not (td_val (ed_call c__law_same hr (by decide) dvs0 (len__law_same 24) (ad_cons (ed_call c_is_line_plan hr (by decide) dvs0 runF_len (ad_cons (ed_var 4) ad_nil)) (ad_cons ed_bl ad_nil)))))
  (ssd_one (sd_ret ed_bl))
  ssd_nil)))
  (ssd_cons (sd_for rfl PassesOwn.never (id_rng1 ed_int B.range) (gd_name (i := 5) sc__law_refused.nd rfl (by first | exact .inl rfl | exact .inr rfl))
  (ssd_one (sd_if (td_cmp vb_ne (op_neD hr.units) (nomark _) (ed_call c__law_ask hr (by decide) dvs0 runF_len (ad_cons (ed_var 5) (ad_cons (ed_ix (ed_var 3) (ed_op vb_mod op_mod (ed_ct vc_int call_int1 B.int (ad_cons (ed_op vb_add op_add3 (ed_var 1) (ed_var 5)) ad_nil)) (ed_cb vc_len call_len_seq B.len (ad_cons (ed_var 3) ad_nil)))) ad_nil))) (ed_tup (ad_cons ed_str (ad_cons ed_str (ad_cons (ed_neg ed_int) ad_nil)))))
  (ssd_one (sd_ret ed_bl))
  ssd_nil)))
  (ssd_cons (sd_setF 6 sc__law_refused.nd (ed_ix (ed_var 3) (ed_op vb_mod op_mod (ed_ct vc_int call_int1 B.int (ad_cons (ed_op vb_add op_add3 (ed_var 1) ed_int) ad_nil)) (ed_cb vc_len call_len_seq B.len (ad_cons (ed_var 3) ad_nil)))))
  (ssd_cons (sd_if (WD.td (wd_or (td_cmp vb_ne (op_neD hr.units) (nomark _) (ed_call c__law_ask_two hr (by decide) dvs0 runF_len (ad_cons (ed_var 6) (ad_cons (ed_var 0) ad_nil))) (ed_tup (ad_cons ed_str (ad_cons ed_str (ad_cons (ed_neg ed_int) ad_nil))))) (wd_or1 (td_cmp vb_ne (op_neD hr.units) (nomark _) (ed_call c__law_ask_two hr (by decide) dvs0 runF_len (ad_cons (ed_var 6) (ad_cons (ed_var 6) ad_nil))) (ed_tup (ad_cons ed_str (ad_cons ed_str (ad_cons (ed_neg ed_int) ad_nil))))))))
  (ssd_one (sd_ret ed_bl))
  ssd_nil)
  (ssd_cons (sd_if (td_cmp vb_ne (op_neD hr.units) (nomark _) (ed_call c__law_ask_two hr (by decide) dvs0 runF_len (ad_cons (ed_var 0) (ad_cons (ed_var 6) ad_nil))) (ed_tup (ad_cons ed_str (ad_cons ed_str (ad_cons (ed_neg ed_int) ad_nil)))))
  (ssd_one (sd_ret ed_bl))
  ssd_nil)
  (ssd_cons (sd_for rfl PassesOwn.never (id_seq (ed_tup (ad_cons (ed_tup (ad_cons ed_str ad_nil)) (ad_cons (ed_tup ad_nil) (ad_cons ed_non (ad_cons ed_int (ad_cons ed_bl (ad_cons (ed_lst (ad_cons ed_str ad_nil)) (ad_cons (ed_tup (ad_cons ed_str (ad_cons ed_str (ad_cons ed_str ad_nil)))) ad_nil))))))))) (gd_name (i := 4) sc__law_refused.nd rfl (by first | exact .inl rfl | exact .inr rfl))
  (ssd_cons (sd_if (WD.td (wd_or (td_not (td_val (ed_call c__law_same hr (by decide) dvs0 (len__law_same 24) (ad_cons (ed_call c_is_track hr (by decide) dvs0 runF_len (ad_cons (ed_var 4) ad_nil)) (ad_cons ed_bl ad_nil))))) (wd_or1 (td_cmp vb_ne (op_neD hr.units) (nomark _) (ed_call c__law_ask hr (by decide) dvs0 runF_len (ad_cons ed_int (ad_cons (ed_var 4) ad_nil))) (ed_tup (ad_cons ed_str (ad_cons ed_str (ad_cons (ed_neg ed_int) ad_nil))))))))
  (ssd_one (sd_ret ed_bl))
  ssd_nil)
  (ssd_cons (sd_if (td_cmp vb_ne (op_neD hr.units) (nomark _) (ed_call c__law_ask hr (by decide) dvs0 runF_len (ad_cons ed_int (ad_cons (ed_var 4) ad_nil))) (ed_tup (ad_cons ed_str (ad_cons ed_str (ad_cons (ed_neg ed_int) ad_nil)))))
  (ssd_one (sd_ret ed_bl))
  ssd_nil)
  ssd_nil)))
  (ssd_cons (sd_ret (ed_cmp vb_eq (op_eqD hr.units) (nomark _) (ed_call c__law_ask hr (by decide) dvs0 runF_len (ad_cons ed_int (ad_cons (ed_tup (ad_cons (ed_tup (ad_cons ed_int (ad_cons ed_int ad_nil))) ad_nil)) ad_nil))) (ed_tup (ad_cons ed_str (ad_cons ed_str (ad_cons (ed_neg ed_int) ad_nil))))))
  ssd_nil)))))))))
theorem ok__law_far_told (F : FunD K "_law_far_told" "_law_far_told" (defArgs s__law_far_told) (defBody s__law_far_told) (defScope s__law_far_told) dvs kws f fd) (c__law_plan : Kf P w K mg base 2 "_law_plan" (spM K 1 F__law_plan) []) (c__law_same : Kf P w K mg base 25 "_law_same" (spD K 2 F__law_same) []) (c__law_take : Kf P w K mg base 1 "_law_take" (spM K 1 F__law_take) []) (c_is_line_plan : Kf P w K mg base 4 "is_line_plan" (spD K 1 F_is_line_plan) []) (c_is_track : Kf P w K mg base 1 "is_track" (spD K 1 F_is_track) []) : FnOk P w K mg base CX0 26 f fd ["_law_hand_here"] (spM K 0 F__law_far_told) :=
  fnM F sc__law_far_told rfl rfl fun cdv A outer s H E hr => (ssd_cons (sd_setF 1 sc__law_far_told.nd (ed_callM c__law_plan hr (by decide) dvs0 runM_len (ad_cons (ed_var 0) (ad_cons ed_int ad_nil))))
  (ssd_cons (sd_setF 2 sc__law_far_told.nd (ed_op vb_adS op_add_str (ed_op vb_mulS op_mulS ed_str (ed_callM c__law_take hr (by decide) dvs0 runM_len (ad_cons (ed_var 0) (ad_cons ed_int ad_nil)))) (ed_op vb_mulS op_mulS ed_str ed_int)))
  (ssd_cons (sd_if (WD.td (wd_or (td_not (td_val (ed_call c__law_same hr (by decide) dvs0 (len__law_same 24) (ad_cons (ed_call c_is_line_plan hr (by decide) dvs0 runF_len (ad_cons (ed_var 1) ad_nil)) (ad_cons ed_bl ad_nil))))) (wd_or1 (td_not (td_val (ed_call c__law_same hr (by decide) dvs0 (len__law_same 24) (ad_cons (ed_call c_is_line_plan hr (by decide) dvs0 runF_len (ad_cons (ed_op vb_add op_add3 (ed_var 1) (ed_tup (ad_cons ed_int ad_nil))) ad_nil)) (ad_cons ed_bl ad_nil))))))))
  (ssd_one (sd_ret ed_bl))
  ssd_nil)
  (ssd_cons (sd_if (td_not (td_val (ed_call c__law_same hr (by decide) dvs0 (len__law_same 24) (ad_cons (ed_call c_is_track hr (by decide) dvs0 runF_len (ad_cons (ed_op vb_adS op_add_str (ed_var 2) (ed_op vb_mulS op_mulS ed_str ed_int)) ad_nil)) (ad_cons ed_bl ad_nil)))))
  (ssd_one (sd_ret ed_bl))
  ssd_nil)
  (ssd_cons (sd_ret (ed_call c__law_same hr (by decide) dvs0 (len__law_same 24) (ad_cons (ed_call c_is_track hr (by decide) dvs0 runF_len (ad_cons (ed_op vb_adS op_add_str (ed_var 2) (ed_op vb_mulS op_mulS ed_str ed_int)) ad_nil)) (ad_cons ed_bl ad_nil))))
  ssd_nil)))))
theorem ok__law_bent_holds (B : Bi mg) (F : FunD K "_law_bent_holds" "_law_bent_holds" (defArgs s__law_bent_holds) (defBody s__law_bent_holds) (defScope s__law_bent_holds) dvs kws f fd) (c__law_ask : Kf P w K mg base 7 "_law_ask" (spD K 2 F__law_ask) []) (c__law_is_plan : Kf P w K mg base 1 "_law_is_plan" (spD K 1 F__law_is_plan) []) (c__law_plan_holds : Kf P w K mg base 26 "_law_plan_holds" (spD K 1 F__law_plan_holds) []) (c__law_same : Kf P w K mg base 25 "_law_same" (spD K 2 F__law_same) []) (c__law_take : Kf P w K mg base 1 "_law_take" (spM K 1 F__law_take) []) (c_is_line_plan : Kf P w K mg base 4 "is_line_plan" (spD K 1 F_is_line_plan) []) : FnOk P w K mg base CX0 27 f fd ["_law_hand_here", "_law_found"] (spM K 1 F__law_bent_holds) :=
  fnM F sc__law_bent_holds rfl rfl fun cdv A outer s H E hr => (ssd_cons (sd_setF 2 sc__law_bent_holds.nd (ed_callM c__law_take hr (by decide) dvs0 runM_len (ad_cons (ed_var 0) (ad_cons (ed_cb vc_len call_len_seq B.len (ad_cons (ed_var 1) ad_nil)) ad_nil))))
  (ssd_cons (sd_setF 3 sc__law_bent_holds.nd (ed_op vb_add op_add3 (ed_op vb_add op_add3 (ed_sl (ed_var 1) od_no (od_at (ed_var 2))) (ed_tup (ad_cons (ed_op vb_sub op_sub (ed_callM c__law_take hr (by decide) dvs0 runM_len (ad_cons (ed_var 0) (ad_cons (ed_op vb_add op_add3 (ed_var 2) ed_int) ad_nil))) ed_int) ad_nil))) (ed_sl (ed_var 1) (od_at (ed_op vb_add op_add3 (ed_var 2) ed_int)) od_no)))
  (ssd_cons (sd_if (td_val (ed_call c__law_is_plan hr (by decide) dvs0 runF_len (ad_cons (ed_var 3) ad_nil)))
  (ssd_one (sd_ret (ed_call c__law_plan_holds hr (by decide) dvs0 runF_len (ad_cons (ed_var 3) ad_nil))))
  ssd_nil)
  (ssd_cons (sd_if (td_not (td_val (ed_call c__law_same hr (by decide) dvs0 (len__law_same 24) (ad_cons (ed_call c_is_line_plan hr (by decide) dvs0 runF_len (ad_cons (ed_var 3) ad_nil)) (ad_cons ed_bl ad_nil)))))
  (ssd_one (sd_ret ed_bl))
  ssd_nil)
  (ssd_cons (sd_ret (ed_cmp vb_eq (op_eqD hr.units) (nomark _) (ed_lc (own := [("_law_k", 4)]) rfl sc__law_bent_holds.nd (id_rng1 ed_int B.range) (by first | decide | with_unfolding_all rfl) (by decide) (fun _ _ _ _ _ => (gd_name (i := 4) sc__law_bent_holds.nd rfl (by first | exact .inl rfl | exact .inr rfl))) (fun _ _ _ _ _ => (ptd_one (td_cmp vb_ne (op_neD hr.units) (nomark _) (ed_call c__law_ask hr (by decide) dvs0 runF_len (ad_cons (ed_var 4) (ad_cons (ed_var 3) ad_nil))) (ed_tup (ad_cons ed_str (ad_cons ed_str (ad_cons (ed_neg ed_int) ad_nil))))))) (fun _ _ _ _ _ => (ed_var 4))) (ed_lst ad_nil)))
  ssd_nil)))))
theorem ok_law (F : FunD K "law" "law" (defArgs s_law) (defBody s_law) (defScope s_law) dvs kws f fd) (c__law_bent_holds : Kf P w K mg base 27 "_law_bent_holds" (spM K 1 F__law_bent_holds) []) (c__law_by_reads : Kf P w K mg base 1 "_law_by_reads" (spD K 1 F__law_by_reads) []) (c__law_far_told : Kf P w K mg base 26 "_law_far_told" (spM K 0 F__law_far_told) []) (c__law_hand : Kf P w K mg base 1 "_law_hand" (spD K 1 F__law_hand) []) (c__law_plan : Kf P w K mg base 2 "_law_plan" (spM K 1 F__law_plan) []) (c__law_plan_holds : Kf P w K mg base 26 "_law_plan_holds" (spD K 1 F__law_plan_holds) []) (c__law_reads : Kf P w K mg base 1 "_law_reads" (spD K 1 F__law_reads) []) (c__law_refused : Kf P w K mg base 26 "_law_refused" (spD K 2 F__law_refused) []) (c__law_same : Kf P w K mg base 25 "_law_same" (spD K 2 F__law_same) []) (c__law_sign : Kf P w K mg base 2 "_law_sign" (spM K 1 F__law_sign) []) (c__law_sign_holds : Kf P w K mg base 26 "_law_sign_holds" (spD K 1 F__law_sign_holds) []) (c__law_spoilt : Kf P w K mg base 2 "_law_spoilt" (spM K 1 F__law_spoilt) []) (c__law_take : Kf P w K mg base 1 "_law_take" (spM K 1 F__law_take) []) (c_bases_from_kw0_0 : KfK P w K mg base 4 "bases_from" (spD K 1 F_bases_from) 0 ["track"] [0]) (c_is_line_plan_kw0_0 : KfK P w K mg base 4 "is_line_plan" (spD K 1 F_is_line_plan) 0 ["thing"] [0]) (c_is_track_kw0_0 : KfK P w K mg base 1 "is_track" (spD K 1 F_is_track) 0 ["thing"] [0]) (c_joined_plans : Kf P w K mg base 5 "joined_plans" (spD K 2 F_joined_plans) []) (c_joined_plans_kw0_1_0 : KfK P w K mg base 5 "joined_plans" (spD K 2 F_joined_plans) 0 ["other", "one"] [1, 0]) (c_mirrored : Kf P w K mg base 6 "mirrored" (spD K 1 F_mirrored) []) (c_mirrored_kw0_0 : KfK P w K mg base 6 "mirrored" (spD K 1 F_mirrored) 0 ["bases"] [0]) (c_track_of : Kf P w K mg base 5 "track_of" (spD K 1 F_track_of) []) (c_track_of_kw0_0 : KfK P w K mg base 5 "track_of" (spD K 1 F_track_of) 0 ["bases"] [0]) (c_turns_of : Kf P w K mg base 4 "turns_of" (spD K 1 F_turns_of) []) (c_turns_of_kw0_0 : KfK P w K mg base 4 "turns_of" (spD K 1 F_turns_of) 0 ["track"] [0]) : FnOk P w K mg base CX0 28 f fd ["_law_script"] (spD K 1 F_law) :=
  fnD F sc_law rfl rfl fun cdv A outer s H E hr => (ssd_cons (sd_set 1 sc_law.nd (ed_call c__law_hand hr (by decide) dvs0 runF_len (ad_cons (ed_var 0) ad_nil)))
  (ssd_cons (sd_setF 2 sc_law.nd (ed_callM c__law_take hr (by decide) dvs0 runM_len (ad_cons (ed_var 1) (ad_cons ed_int ad_nil))))
  (ssd_cons (sd_setF 3 sc_law.nd (ed_callM c__law_take hr (by decide) dvs0 runM_len (ad_cons (ed_var 1) (ad_cons ed_int ad_nil))))
  (ssd_cons (sd_if (td_cmp vb_eq (op_eqD hr.units) (nomark _) (ed_var 3) ed_int)
  (ssd_one (sd_setF 2 sc_law.nd ed_int))
  ssd_nil)
  (ssd_cons (sd_if (td_cmp vb_eq (op_eqD hr.units) (nomark _) (ed_var 3) ed_int)
  (ssd_one (sd_setF 2 sc_law.nd (ed_op vb_add op_add3 ed_int (ed_callM c__law_take hr (by decide) dvs0 runM_len (ad_cons (ed_var 1) (ad_cons ed_int ad_nil))))))
  ssd_nil)
  (ssd_cons (sd_setF 4 sc_law.nd (ed_callM c__law_plan hr (by decide) dvs0 runM_len (ad_cons (ed_var 1) (ad_cons (ed_var 2) ad_nil))))
  (ssd_cons (sd_setF 5 sc_law.nd (ed_callM c__law_plan hr (by decide) dvs0 runM_len (ad_cons (ed_var 1) (ad_cons (ed_callM c__law_take hr (by decide) dvs0 runM_len (ad_cons (ed_var 1) (ad_cons ed_int ad_nil))) ad_nil))))
  (ssd_cons (sd_if (WD.td (wd_or (td_not (td_val (ed_call c__law_plan_holds hr (by decide) dvs0 runF_len (ad_cons (ed_var 4) ad_nil)))) (wd_or1 (td_not (td_val (ed_call c__law_plan_holds hr (by decide) dvs0 runF_len (ad_cons (ed_var 5) ad_nil)))))))
  (ssd_one (sd_ret ed_bl))
  ssd_nil)
  (ssd_cons (sd_setF 6 sc_law.nd (ed_sl (ed_var 4) od_no (od_at ed_int)))
  (ssd_cons (sd_setF 7 sc_law.nd (ed_call c__law_by_reads hr (by decide) dvs0 runF_len (ad_cons (ed_op vb_add op_add3 (ed_op vb_add op_add3 (ed_call c__law_reads hr (by decide) dvs0 runF_len (ad_cons (ed_var 5) ad_nil)) (ed_lst (ad_cons ed_int ad_nil))) (ed_lc (own := [("_law_r", 9)]) rfl sc_law.nd (id_seq (ed_sl (ed_call c__law_reads hr (by decide) dvs0 runF_len (ad_cons (ed_var 6) ad_nil)) (od_at ed_int) od_no)) (by first | decide | with_unfolding_all rfl) (by decide) (fun _ _ _ _ _ => (gd_name (i := 9) sc_law.nd rfl (by first | exact .inl rfl | exact .inr rfl))) (fun _ _ _ _ _ => ptd_nil) (fun _ _ _ _ _ => (ed_op vb_add op_add3 (ed_var 9) ed_int)))) ad_nil)))
  (ssd_cons (sd_if (td_not (td_val (ed_call c__law_same hr (by decide) dvs0 (len__law_same 24) (ad_cons (ed_call c_joined_plans hr (by decide) dvs0 runF_len (ad_cons (ed_var 5) (ad_cons (ed_var 6) ad_nil))) (ad_cons (ed_var 7) ad_nil)))))
  (ssd_one (sd_ret ed_bl))
  ssd_nil)
  (ssd_cons (sd_if (td_not (td_val (ed_call c__law_same hr (by decide) dvs0 (len__law_same 24) (ad_cons (ed_callK0 c_joined_plans_kw0_1_0 hr (by decide) runF_len (kd_cons (ed_var 6) (kd_cons (ed_var 5) kd_nil)) (len_cons (len_cons len_nil))) (ad_cons (ed_var 7) ad_nil)))))
  (ssd_one (sd_ret ed_bl))
  ssd_nil)
  (ssd_cons (sd_setF 8 sc_law.nd (ed_callM c__law_sign hr (by decide) dvs0 runM_len (ad_cons (ed_var 1) (ad_cons (ed_callM c__law_take hr (by decide) dvs0 runM_len (ad_cons (ed_var 1) (ad_cons ed_int ad_nil))) ad_nil))))
  (ssd_cons (sd_if (WD.td (wd_or (td_not (td_val (ed_call c__law_sign_holds hr (by decide) dvs0 runF_len (ad_cons (ed_var 8) ad_nil)))) (wd_or (td_not (td_val (ed_call c__law_sign_holds hr (by decide) dvs0 runF_len (ad_cons (ed_callM c__law_spoilt hr (by decide) dvs0 runM_len (ad_cons (ed_var 1) (ad_cons (ed_var 8) ad_nil))) ad_nil)))) (wd_or1 (td_not (td_val (ed_call c__law_sign_holds hr (by decide) dvs0 runF_len (ad_cons ed_str ad_nil))))))))
  (ssd_one (sd_ret ed_bl))
  ssd_nil)
  (ssd_cons (sd_if (td_not (td_val (ed_call c__law_sign_holds hr (by decide) dvs0 runF_len (ad_cons (ed_op vb_adS op_add_str (ed_var 8) ed_str) ad_nil))))
  (ssd_one (sd_ret ed_bl))
  ssd_nil)
  (ssd_cons (sd_if (WD.td (wd_and (td_cmp vq_gt (oq_gt hr.units) (nomark _) (ed_var 2) ed_int) (wd_and1 (td_not (td_val (ed_callM c__law_bent_holds hr (by decide) dvs0 runM_len (ad_cons (ed_var 1) (ad_cons (ed_var 4) ad_nil))))))))
  (ssd_one (sd_ret ed_bl))
  ssd_nil)
  (ssd_cons (sd_if (td_not (td_val (ed_call c__law_refused hr (by decide) dvs0 runF_len (ad_cons (ed_var 5) (ad_cons (ed_callM c__law_take hr (by decide) dvs0 runM_len (ad_cons (ed_var 1) (ad_cons ed_int ad_nil))) ad_nil)))))
  (ssd_one (sd_ret ed_bl))
  ssd_nil)
  (ssd_cons (sd_if (WD.td (wd_and (td_cmp vb_eq (op_eqD hr.units) (nomark _) (ed_var 3) ed_int) (wd_and1 (td_not (td_val (ed_callM c__law_far_told hr (by decide) dvs0 runM_len (ad_cons (ed_var 1) ad_nil)))))))
  (ssd_one (sd_ret ed_bl))
  ssd_nil)
  (ssd_cons (sd_if (td_not (td_val (ed_call c__law_same hr (by decide) dvs0 (len__law_same 24) (ad_cons (ed_callK0 c_track_of_kw0_0 hr (by decide) runF_len (kd_cons (ed_var 4) kd_nil) (len_cons len_nil)) (ad_cons (ed_call c_track_of hr (by decide) dvs0 runF_len (ad_cons (ed_var 4) ad_nil)) ad_nil)))))
  (ssd_one (sd_ret ed_bl))
  ssd_nil)
  (ssd_cons (sd_if (td_not (td_val (ed_call c__law_same hr (by decide) dvs0 (len__law_same 24) (ad_cons (ed_callK0 c_turns_of_kw0_0 hr (by decide) runF_len (kd_cons (ed_var 8) kd_nil) (len_cons len_nil)) (ad_cons (ed_call c_turns_of hr (by decide) dvs0 runF_len (ad_cons (ed_var 8) ad_nil)) ad_nil)))))
  (ssd_one (sd_ret ed_bl))
  ssd_nil)
  (ssd_cons (sd_if (WD.td (wd_or (td_not (td_val (ed_call c__law_same hr (by decide) dvs0 (len__law_same 24) (ad_cons (ed_callK0 c_is_line_plan_kw0_0 hr (by decide) runF_len (kd_cons (ed_var 4) kd_nil) (len_cons len_nil)) (ad_cons ed_bl ad_nil))))) (wd_or1 (td_not (td_val (ed_call c__law_same hr (by decide) dvs0 (len__law_same 24) (ad_cons (ed_callK0 c_is_track_kw0_0 hr (by decide) runF_len (kd_cons (ed_var 8) kd_nil) (len_cons len_nil)) (ad_cons ed_bl ad_nil))))))))
  (ssd_one (sd_ret ed_bl))
  ssd_nil)
  (ssd_cons (sd_if (td_not (td_val (ed_call c__law_same hr (by decide) dvs0 (len__law_same 24) (ad_cons (ed_callK0 c_mirrored_kw0_0 hr (by decide) runF_len (kd_cons (ed_call c_mirrored hr (by decide) dvs0 runF_len (ad_cons (ed_var 4) ad_nil)) kd_nil) (len_cons len_nil)) (ad_cons (ed_var 4) ad_nil)))))
  (ssd_one (sd_ret ed_bl))
  ssd_nil)
  (ssd_cons (sd_ret (ed_call c__law_same hr (by decide) dvs0 (len__law_same 24) (ad_cons (ed_callK0 c_bases_from_kw0_0 hr (by decide) runF_len (kd_cons (ed_call c_track_of hr (by decide) dvs0 runF_len (ad_cons (ed_var 5) ad_nil)) kd_nil) (len_cons len_nil)) (ad_cons (ed_var 5) ad_nil))))
  ssd_nil)))))))))))))))))))))))
end
end K24
namespace K24
open PySem PySem.Spec PyProof.Rows L2 DL
noncomputable section
def f_is_integer (thing : PyData) : Option Bool :=
  (isD .int thing).bind fun t1 => (andO t1 ((isD .bool thing).bind fun t2 => some (!t2))).bind fun t3 => some t3
def f_last_full_L1 (bases : (List Int)) (x_1 : (Int × Int)) (found_ : Int) : Option (Int) :=
  if (decide (x_1.2 = (0 : Int))) = true then (some x_1.1).bind fun found5 => some found5 else some found_
def f_last_full (bases : (List Int)) : Option Int :=
  (some (0 : Int)).bind fun found1 => (forS (fun x_1 (found_ : Int) => f_last_full_L1 bases x_1 found_) (enumL1 bases) found1).bind fun found11 => some found11
def f_put_beside (ahead : (List Int)) (behind : (List Int)) : Option (List Int) :=
  (some ((ahead.length : Int) + (1 : Int))).bind fun cut1 => (catO ahead [(0 : Int)]).bind fun t2 => (lcC (fun x3 => some true) (fun x3 => some (cut1 + x3)) behind).bind fun t4 => (catO t2 t4).bind fun t5 => some t5
def f_is_track_L1 (thing : PyData) (x_1 : Str) (missing_ : Int) : Option (Lp (Int) Bool) :=
  if (decide (missing_ = (0 : Int))) = true then some (.rt false) else (bD (p_eq (PyData.str x_1) (PyData.str ("+" : Str)))).bind fun t7 => if t7 = true then (some (missing_ + (1 : Int))).bind fun missing9 => some (.nx missing9) else (bD (p_eq (PyData.str x_1) (PyData.str ("-" : Str)))).bind fun t10 => if t10 = true then (some (missing_ - (1 : Int))).bind fun missing12 => some (.nx missing12) else some (.rt false)
def f_is_track (thing : PyData) : Option Bool :=
  (isD .str thing).bind fun t1 => if (!t1) = true then some false else (some (1 : Int)).bind fun missing3 => (txD thing).bind fun is4 => thenL (forG (fun x_1 (missing_ : Int) => f_is_track_L1 thing x_1 missing_) is4 missing3) (fun r_ => some r_) fun missing22 => some (decide (missing22 = (0 : Int)))
def f_w_hand (script : (List Int)) : Option ((List Int) × Int × Int × Int × Int) :=
  some (script, (0 : Int), (0 : Int), (0 : Int), (0 : Int))
def f_w_take_J1 (most : Int) (hand_ : ((List Int) × Int × Int × Int × Int)) : Option ((Int × ((List Int) × Int × Int × Int × Int))) :=
  if (decide ((0 : Int) < hand_.2.2.1)) = true then (modO hand_.2.2.1 most).bind fun digit17 => (divO hand_.2.2.1 most).bind fun t18 => (some ((hand_.1, hand_.2.1, t18, hand_.2.2.2.1, hand_.2.2.2.2) : ((List Int) × Int × Int × Int × Int))).bind fun hand19 => some (digit17, hand19) else (some (((hand_.2.2.2.1 + (hand_.2.2.2.2 * (40503 : Int))) * (48271 : Int)) % (2147483647 : Int))).bind fun mixed20 => (mulO mixed20 mixed20).bind fun t21 => (some ((t21 + hand_.2.2.2.2) % (1000003 : Int))).bind fun mixed22 => (modO ((((mixed22 * (7919 : Int)) + hand_.2.2.2.1) % (998244353 : Int)) / (11 : Int)) most).bind fun t23 => some (t23, hand_)
def f_w_take (hand : ((List Int) × Int × Int × Int × Int)) (most : Int) : Option (Int × ((List Int) × Int × Int × Int × Int)) :=
  (some ((hand.1, hand.2.1, hand.2.2.1, hand.2.2.2.1, (hand.2.2.2.2 + (1 : Int))) : ((List Int) × Int × Int × Int × Int))).bind fun hand1 => if (decide ((hand1.1.length : Int) = (0 : Int))) = true then (modO ((2 : Int) + ((3 : Int) * hand1.2.2.2.2)) most).bind fun t3 => some (t3, hand1) else if ((decide (hand1.2.2.1 = (0 : Int))) && (decide (hand1.2.1 < (hand1.1.length : Int)))) = true then (atI hand1.1 hand1.2.1).bind fun cell35 => (some ((hand1.1, (hand1.2.1 + (1 : Int)), hand1.2.2.1, hand1.2.2.2.1, hand1.2.2.2.2) : ((List Int) × Int × Int × Int × Int))).bind fun hand36 => (some ((hand36.1, hand36.2.1, hand36.2.2.1, ((((hand36.2.2.2.1 * (131 : Int)) + cell35) + (24 : Int)) % (2147483629 : Int)), hand36.2.2.2.2) : ((List Int) × Int × Int × Int × Int))).bind fun hand37 => (powO (10 : Int) (18 : Int)).bind fun t38 => if (decide (t38 ≤ (if cell35 < 0 then -cell35 else cell35))) = true then (powO (10 : Int) (60 : Int)).bind fun t40 => (modO (if cell35 < 0 then -cell35 else cell35) t40).bind fun t41 => (some ((hand37.1, hand37.2.1, t41, hand37.2.2.2.1, hand37.2.2.2.2) : ((List Int) × Int × Int × Int × Int))).bind fun hand42 => f_w_take_J1 most hand42 else f_w_take_J1 most hand37 else f_w_take_J1 most hand1
def f_w_is_plan_L2 (found : (List Int)) (z_ : Int) (x_2 : Int) : Option (Lp (Unit) Bool) :=
  (atI found z_).bind fun t11 => (atI found (x_2 - (1 : Int))).bind fun t12 => if (decide (t12 < t11)) = true then some (.rt false) else some (.nx ())
def f_w_is_plan_L1 (found : (List Int)) (x_1 : Int) : Option (Lp (Unit) Bool) :=
  (atI found x_1).bind fun t4 => (orO (decide (t4 < (0 : Int))) ((atI found x_1).bind fun t5 => some (decide (x_1 < t5)))).bind fun t6 => if t6 = true then some (.rt false) else (atI found x_1).bind fun t8 => (rngO (t8 + (1 : Int)) (x_1 + (1 : Int))).bind fun is9 => thenL (forG (fun x_2 (s_ : Unit) => f_w_is_plan_L2 found x_1 x_2) is9 ()) (fun r_ => some (.rt r_)) fun s18 => some (.nx ())
def f_w_is_plan (found : (List Int)) : Option Bool :=
  (rng1O (found.length : Int)).bind fun is1 => thenL (forG (fun x_1 (s_ : Unit) => f_w_is_plan_L1 found x_1) is1 ()) (fun r_ => some r_) fun s34 => some true
def f_w_reads_L1 (found : (List Int)) (x_1 : Int) (reads_ : (List Int)) : Option ((List Int)) :=
  (atI reads_ x_1).bind fun t3 => (appO reads_ (t3 + (1 : Int))).bind fun reads4 => some reads4
def f_w_reads (found : (List Int)) : Option (List Int) :=
  (some [(0 : Int)]).bind fun reads1 => (forS (fun x_1 (reads_ : (List Int)) => f_w_reads_L1 found x_1 reads_) found reads1).bind fun reads9 => some reads9
def f_w_writes (found : (List Int)) : Option (List Int) :=
  (rngO (1 : Int) ((found.length : Int) + (1 : Int))).bind fun is1 => (lcC (fun x2 => some true) (fun x2 => (rngO x2 ((found.length : Int) + (1 : Int))).bind fun is3 => (lcC (fun x4 => some true) (fun x4 => (atI found (x4 - (1 : Int))).bind fun t5 => some (if (decide (t5 < x2)) = true then (1 : Int) else 0)) is3).bind fun t6 => some t6.sum) is1).bind fun t7 => some t7
def f_w_by_reads_L2 (reads : (List Int)) (found : (List Int)) (v_ : Int) (base_ : Int) : Option (Int) :=
  (some (base_ - (1 : Int))).bind fun base6 => some base6
def f_w_by_reads_L2c (reads : (List Int)) (found : (List Int)) (v_ : Int) (base_ : Int) : Option Bool :=
  (andO (decide ((0 : Int) < base_)) ((atI reads base_).bind fun t7 => (atI reads v_).bind fun t8 => some (decide (t8 ≤ t7)))).bind fun t9 => some t9
def f_w_by_reads_L1 (reads : (List Int)) (x_1 : Int) (found_ : (List Int)) : Option ((List Int)) :=
  (some (x_1 - (1 : Int))).bind fun base5 => (whS (fun (base_ : Int) => f_w_by_reads_L2c reads found_ x_1 base_) (fun (base_ : Int) => f_w_by_reads_L2 reads found_ x_1 base_) (base5.toNat + 1) base5).bind fun base15 => (appO found_ base15).bind fun found16 => some found16
def f_w_by_reads (reads : (List Int)) : Option (List Int) :=
  (some []).bind fun found1 => (rngO (1 : Int) (reads.length : Int)).bind fun is2 => (forS (fun x_1 (found_ : (List Int)) => f_w_by_reads_L1 reads x_1 found_) is2 found1).bind fun found28 => some found28
def f_w_buds_L1 (text : Str) (x_1 : Str) (waiting_ : (List (Int × Int))) (buds_ : (List (Int × Int))) : Option (Lp ((List (Int × Int)) × (List (Int × Int))) (Option (List (Int × Int)))) :=
  (orO (decide ((waiting_.length : Int) = (0 : Int))) ((bD (p_notin (PyData.str x_1) ((p2 PyData.str PyData.str) (("+" : Str), ("-" : Str))))).bind fun t6 => some t6)).bind fun t7 => if t7 = true then some (.rt none) else (popO waiting_).bind fun pw9 => (bD (p_eq (PyData.str x_1) (PyData.str ("+" : Str)))).bind fun t10 => if t10 = true then (appO pw9.2 (pw9.1.1, (pw9.1.2 + (1 : Int)))).bind fun waiting12 => (appO waiting12 ((pw9.1.1 + (1 : Int)), pw9.1.2)).bind fun waiting13 => some (.nx (waiting13, buds_)) else (appO buds_ (pw9.1.1, pw9.1.2)).bind fun buds14 => some (.nx (pw9.2, buds14))
def f_w_buds (text : Str) : Option (Option (List (Int × Int))) :=
  (some [((0 : Int), (0 : Int))]).bind fun waiting1 => (some []).bind fun buds2 => thenL (forG (fun x_1 (s_ : (List (Int × Int)) × (List (Int × Int))) => f_w_buds_L1 text x_1 s_.1 s_.2) (DL.signs text) (waiting1, buds2)) (fun r_ => some r_) fun s27 => if (decide ((0 : Int) < (s27.1.length : Int))) = true then some none else some (some s27.2)
def f_is_number (thing : PyData) : Option Bool :=
  (f_is_integer thing).bind fun t1 => (andO t1 ((bD (q_ge thing (PyData.int (0 : Int)))).bind fun t2 => some (t2))).bind fun t3 => some t3
def f_ahead_and_behind (bases : (List Int)) : Option ((List Int) × (List Int)) :=
  (f_last_full bases).bind fun cut2 => (some (cutD bases none (some (cut2 - (1 : Int))))).bind fun ahead3 => (lcC (fun x4 => some true) (fun x4 => some (x4 - cut2)) (cutD bases (some cut2) none)).bind fun behind6 => some (ahead3, behind6)
def f_built_L1 (track : Str) (is_mirrored : Bool) (x_1 : Str) (held_ : (List (List Int))) : Option ((List (List Int))) :=
  (bD (p_eq (PyData.str x_1) (PyData.str ("-" : Str)))).bind fun t6 => if t6 = true then (appO held_ []).bind fun held8 => some held8 else (popO held_).bind fun pw9 => (some pw9.1).bind fun ahead10 => (popO pw9.2).bind fun pw11 => (some pw11.1).bind fun behind12 => if is_mirrored = true then (f_put_beside behind12 ahead10).bind fun t14 => (appO pw11.2 t14).bind fun held15 => some held15 else (f_put_beside ahead10 behind12).bind fun t16 => (appO pw11.2 t16).bind fun held17 => some held17
def f_built (track : Str) (is_mirrored : Bool) : Option (List Int) :=
  (some []).bind fun held1 => (revSO track).bind fun t2 => (forS (fun x_1 (held_ : (List (List Int))) => f_built_L1 track is_mirrored x_1 held_) (DL.signs t2) held1).bind fun held34 => (atI held34 (0 : Int)).bind fun t38 => some t38
def f_w_plan_L1 (size : Int) (x_1 : Int) (hand_ : ((List Int) × Int × Int × Int × Int)) (found_ : (List Int)) (chain_ : (List Int)) : Option (((List Int) × Int × Int × Int × Int) × (List Int) × (List Int)) :=
  (f_w_take hand_ ((chain_.length : Int) + (1 : Int))).bind fun t6 => (some t6.1).bind fun k_7 => (catO chain_ [(0 : Int)]).bind fun t8 => (atI t8 k_7).bind fun t9 => (appO found_ t9).bind fun found10 => (catO [x_1] (cutD chain_ (some k_7) none)).bind fun chain12 => some (t6.2, found10, chain12)
def f_w_plan (hand : ((List Int) × Int × Int × Int × Int)) (size : Int) : Option ((List Int) × ((List Int) × Int × Int × Int × Int)) :=
  (some []).bind fun found1 => (some []).bind fun chain2 => (rngO (1 : Int) (size + (1 : Int))).bind fun is3 => (forS (fun x_1 (s_ : ((List Int) × Int × Int × Int × Int) × (List Int) × (List Int)) => f_w_plan_L1 size x_1 s_.1 s_.2.1 s_.2.2) is3 (hand, found1, chain2)).bind fun s22 => some (s22.2.1, s22.1)
def f_w_sign_L1 (x_1 : Int) (hand_ : ((List Int) × Int × Int × Int × Int)) (size_ : Int) (text_ : Str) (waiting_ : Int) : Option (((List Int) × Int × Int × Int × Int) × Int × Str × Int) :=
  (if (decide ((0 : Int) < size_)) = true then (if (decide (waiting_ = (1 : Int))) = true then some (true, hand_) else (f_w_take hand_ (2 : Int)).bind fun t5 => some ((decide (t5.1 = (0 : Int))), t5.2)).bind fun t6 => some (t6.1, t6.2) else some (false, hand_)).bind fun t7 => if t7.1 = true then (adSO text_ ("+" : Str)).bind fun text10 => (some (size_ - (1 : Int))).bind fun size11 => (some (waiting_ + (1 : Int))).bind fun waiting12 => some (t7.2, size11, text10, waiting12) else (adSO text_ ("-" : Str)).bind fun text14 => (some (waiting_ - (1 : Int))).bind fun waiting15 => some (t7.2, size_, text14, waiting15)
def f_w_sign (hand : ((List Int) × Int × Int × Int × Int)) (size : Int) : Option (Str × ((List Int) × Int × Int × Int × Int)) :=
  (some ("" : Str)).bind fun text1 => (some (1 : Int)).bind fun waiting2 => (rng1O (((2 : Int) * size) + (1 : Int))).bind fun is3 => (forS (fun x_1 (s_ : ((List Int) × Int × Int × Int × Int) × Int × Str × Int) => f_w_sign_L1 x_1 s_.1 s_.2.1 s_.2.2.1 s_.2.2.2) is3 (hand, size, text1, waiting2)).bind fun s28 => some (s28.2.2.1, s28.1)
def f_w_spoilt (hand : ((List Int) × Int × Int × Int × Int)) (text : Str) : Option (Str × ((List Int) × Int × Int × Int × Int)) :=
  (lenSO text).bind fun t1 => (f_w_take hand t1).bind fun t2 => (some t2.1).bind fun p_3 => (f_w_take t2.2 (8 : Int)).bind fun t4 => (some t4.1).bind fun way5 => if (decide (way5 = (0 : Int))) = true then (slSO text none (some p_3)).bind fun t7 => (slSO text (some (p_3 + (1 : Int))) none).bind fun t8 => (adSO t7 t8).bind fun t9 => some (t9, t4.2) else if (decide (way5 = (1 : Int))) = true then (slSO text none (some p_3)).bind fun t11 => (adSO t11 ("-" : Str)).bind fun t12 => (slSO text (some p_3) none).bind fun t13 => (adSO t12 t13).bind fun t14 => some (t14, t4.2) else if (decide (way5 = (2 : Int))) = true then (adSO text ("-" : Str)).bind fun t16 => some (t16, t4.2) else if (decide (way5 = (3 : Int))) = true then (slSO text none (some p_3)).bind fun t18 => (ixSO text p_3).bind fun t19 => (bD (p_eq (PyData.str t19) (PyData.str ("+" : Str)))).bind fun t20 => (if t20 = true then some ("-" : Str) else some ("+" : Str)).bind fun t21 => (adSO t18 t21).bind fun t22 => (slSO text (some (p_3 + (1 : Int))) none).bind fun t23 => (adSO t22 t23).bind fun t24 => some (t24, t4.2) else if (decide (way5 = (4 : Int))) = true then (revSO text).bind fun t26 => some (t26, t4.2) else if (decide (way5 = (5 : Int))) = true then (slSO text none (some p_3)).bind fun t28 => (adSO t28 (" " : Str)).bind fun t29 => (slSO text (some p_3) none).bind fun t30 => (adSO t29 t30).bind fun t31 => some (t31, t4.2) else if (decide (way5 = (6 : Int))) = true then (slSO text none (some p_3)).bind fun t33 => (adSO t33 ("+" : Str)).bind fun t34 => (slSO text (some p_3) none).bind fun t35 => (adSO t34 t35).bind fun t36 => some (t36, t4.2) else (slSO text (some p_3) none).bind fun t37 => (slSO text none (some p_3)).bind fun t38 => (adSO t37 t38).bind fun t39 => some (t39, t4.2)
def f_is_nested_L2 (thing : PyData) (version : Int) (base : PyData) (chain_ : (List Int)) : Option ((List Int)) :=
  (popO chain_).bind fun pw10 => some pw10.2
def f_is_nested_L2c (thing : PyData) (version : Int) (base : PyData) (chain_ : (List Int)) : Option Bool :=
  (atI chain_ (-1 : Int)).bind fun t11 => (bD (q_gt (PyData.int t11) base)).bind fun t12 => some (t12)
def f_is_nested_L1 (thing : PyData) (x_1 : PyData) (chain_ : (List Int)) (version_ : Int) : Option (Lp ((List Int) × Int) Bool) :=
  (some (version_ + (1 : Int))).bind fun version7 => (f_is_number x_1).bind fun t8 => if (!t8) = true then some (.rt false) else (whS (fun (chain_ : (List Int)) => f_is_nested_L2c thing version7 x_1 chain_) (fun (chain_ : (List Int)) => f_is_nested_L2 thing version7 x_1 chain_) 300 chain_).bind fun chain17 => (atI chain17 (-1 : Int)).bind fun t18 => (bD (p_ne (PyData.int t18) x_1)).bind fun t19 => if t19 = true then some (.rt false) else (appO chain17 version7).bind fun chain21 => some (.nx (chain21, version7))
def f_is_nested (thing : PyData) : Option Bool :=
  (isD .tuple thing).bind fun t1 => if (!t1) = true then some false else (some [(0 : Int)]).bind fun chain3 => (some (0 : Int)).bind fun version4 => (wkD thing).bind fun is5 => thenL (forG (fun x_1 (s_ : (List Int) × Int) => f_is_nested_L1 thing x_1 s_.1 s_.2) is5 (chain3, version4)) (fun r_ => some r_) fun s35 => some true
def f_need_track (track : Str) : Option Unit :=
  (f_is_track (PyData.str track)).bind fun t1 => if (!t1) = true then none else some ()
def f_need_plan (word : Str) (thing : (List Int)) : Option Unit :=
  (f_is_nested ((tp PyData.int) thing)).bind fun t1 => if (!t1) = true then none else some ()
def f_is_line_plan (thing : PyData) : Option Bool :=
  (f_is_nested thing).bind fun t1 => some t1
def f_bases_from (track : Str) : Option (List Int) :=
  (f_need_track track).bind fun t1 => (f_built track false).bind fun t2 => some t2
def f_turns_of_L1 (track : Str) (x_1 : Str) (turns_ : (List (Int × Int))) (waiting_ : (List (Int × Int))) : Option ((List (Int × Int)) × (List (Int × Int))) :=
  (popO waiting_).bind fun pw7 => (bD (p_eq (PyData.str x_1) (PyData.str ("-" : Str)))).bind fun t8 => if t8 = true then (appO turns_ (pw7.1.1, pw7.1.2)).bind fun turns10 => some (turns10, pw7.2) else (appO pw7.2 (pw7.1.1, (pw7.1.2 + (1 : Int)))).bind fun waiting11 => (appO waiting11 ((pw7.1.1 + (1 : Int)), pw7.1.2)).bind fun waiting12 => some (turns_, waiting12)
def f_turns_of (track : Str) : Option (List (Int × Int)) :=
  (f_need_track track).bind fun t1 => (some []).bind fun turns2 => (some [((0 : Int), (0 : Int))]).bind fun waiting3 => (forS (fun x_1 (s_ : (List (Int × Int)) × (List (Int × Int))) => f_turns_of_L1 track x_1 s_.1 s_.2) (DL.signs track) (turns2, waiting3)).bind fun s22 => some s22.1
def f_track_of_L1 (signs_ : (List Str)) (waiting_ : (List (List Int))) : Option ((List Str) × (List (List Int))) :=
  (popO waiting_).bind fun pw7 => (some pw7.1).bind fun plan8 => if (decide ((plan8.length : Int) = (0 : Int))) = true then (appO signs_ ("-" : Str)).bind fun signs10 => some (signs10, pw7.2) else (f_ahead_and_behind plan8).bind fun t11 => (appO signs_ ("+" : Str)).bind fun signs12 => (appO pw7.2 t11.2).bind fun waiting13 => (appO waiting13 t11.1).bind fun waiting14 => some (signs12, waiting14)
def f_track_of_L1c (signs_ : (List Str)) (waiting_ : (List (List Int))) : Option Bool :=
  some (decide ((0 : Int) < (waiting_.length : Int)))
def f_track_of (bases : (List Int)) : Option Str :=
  (f_need_plan ("bases" : Str) bases).bind fun t1 => (some []).bind fun signs2 => (some [bases]).bind fun waiting3 => (whS (fun (s_ : (List Str) × (List (List Int))) => f_track_of_L1c s_.1 s_.2) (fun (s_ : (List Str) × (List (List Int))) => f_track_of_L1 s_.1 s_.2) 300 (signs2, waiting3)).bind fun s26 => (joinSO ("" : Str) s26.1).bind fun t30 => some t30
def f_need_changes (bases : (List Int)) : Option Unit :=
  (f_need_plan ("bases" : Str) bases).bind fun t1 => if (decide ((bases.length : Int) = (0 : Int))) = true then none else some ()
def f_joined_plans (one : (List Int)) (other : (List Int)) : Option (List Int) :=
  (f_need_plan ("one" : Str) one).bind fun t1 => (f_need_plan ("other" : Str) other).bind fun t2 => (f_put_beside one other).bind fun t3 => some t3
def f_line_reads_L1 (bases : (List Int)) (x_1 : Int) (reads_ : (List Int)) : Option ((List Int)) :=
  (atI reads_ x_1).bind fun t4 => (appO reads_ (t4 + (1 : Int))).bind fun reads5 => some reads5
def f_line_reads (bases : (List Int)) : Option (List Int) :=
  (f_need_plan ("bases" : Str) bases).bind fun t1 => (some [(0 : Int)]).bind fun reads2 => (forS (fun x_1 (reads_ : (List Int)) => f_line_reads_L1 bases x_1 reads_) bases reads2).bind fun reads10 => some reads10
def f_line_writes_L2 (bases : (List Int)) (version : Int) (base : Int) (x_2 : Int) (writes_ : (List Int)) : Option ((List Int)) :=
  (atI writes_ x_2).bind fun t10 => (putO writes_ x_2 (t10 + (1 : Int))).bind fun writes11 => some writes11
def f_line_writes_L1 (bases : (List Int)) (x_1 : (Int × Int)) (writes_ : (List Int)) : Option ((List Int)) :=
  (rngO x_1.2 x_1.1).bind fun is8 => (forS (fun x_2 (writes_ : (List Int)) => f_line_writes_L2 bases x_1.1 x_1.2 x_2 writes_) is8 writes_).bind fun writes16 => some writes16
def f_line_writes (bases : (List Int)) : Option (List Int) :=
  (f_need_plan ("bases" : Str) bases).bind fun t1 => (lcC (fun x2 => some true) (fun x2 => some (0 : Int)) bases).bind fun writes4 => (forS (fun x_1 (writes_ : (List Int)) => f_line_writes_L1 bases x_1 writes_) (enumL1 bases) writes4).bind fun writes29 => some writes29
def f_mirrored (bases : (List Int)) : Option (List Int) :=
  (f_track_of bases).bind fun t1 => (f_built t1 true).bind fun t2 => some t2
def f_cut_of (bases : (List Int)) : Option Int :=
  (f_need_changes bases).bind fun t1 => (f_last_full bases).bind fun t2 => some t2
def f_parts_of (bases : (List Int)) : Option ((List Int) × (List Int)) :=
  (f_need_changes bases).bind fun t1 => (f_ahead_and_behind bases).bind fun t2 => some t2
def f_w_ask_two (left : PyData) (right : PyData) : Option PyData := chI idD (F__law_ask_two [idD left, idD right])
def f_w_ask (which : Int) (value : PyData) : Option PyData := chI idD (F__law_ask [PyData.int which, idD value])
def f_w_same_L1 (rec_ : PyData → PyData → Option Bool) (told : PyData) (due : PyData) (x_1 : (PyData × PyData)) : Option (Lp (Unit) Bool) :=
  (rec_ x_1.1 x_1.2).bind fun t11 => if (!t11) = true then some (.rt false) else some (.nx ())
def f_w_same_B (rec_ : PyData → PyData → Option Bool) (told : PyData) (due : PyData) : Option Bool :=
  (isD .tuple due).bind fun t1 => if t1 = true then (isD .tuple told).bind fun t3 => (orO (!t3) ((iD (c_len [told])).bind fun t4 => (iD (c_len [due])).bind fun t5 => some (!decide (t4 = t5)))).bind fun t6 => if t6 = true then some false else (zkD told due).bind fun zs8 => thenL (forG (fun x_1 (s_ : Unit) => f_w_same_L1 rec_ told due x_1) zs8 ()) (fun r_ => some r_) fun s17 => some true else (isD .bool due).bind fun t20 => if t20 = true then (isD .bool told).bind fun t22 => (andO t22 ((bD (p_eq told due)).bind fun t23 => some t23)).bind fun t24 => some t24 else (isD .int due).bind fun t25 => if t25 = true then (isD .int told).bind fun t27 => (andO t27 ((isD .bool told).bind fun t28 => (andO (!t28) ((bD (p_eq told due)).bind fun t29 => some t29)).bind fun t30 => some t30)).bind fun t31 => some t31 else (isD .str told).bind fun t32 => (andO t32 ((isD .str due).bind fun t33 => (andO t33 ((bD (p_eq told due)).bind fun t34 => some t34)).bind fun t35 => some t35)).bind fun t36 => some t36
def f_w_same_R : Nat → PyData → PyData → Option Bool
  | 0 => fun _ _ => none
  | N + 1 => f_w_same_B (f_w_same_R N)
def f_w_same (told : PyData) (due : PyData) : Option Bool := f_w_same_R 24 told due
def f_w_plan_holds (found : (List Int)) : Option Bool :=
  (some (found.length : Int)).bind fun size1 => (f_w_reads found).bind fun reads3 => (f_w_writes found).bind fun writes5 => (rng1O (size1 + (1 : Int))).bind fun is6 => (lcC (fun x7 => some true) (fun x7 => (catO writes5 [(0 : Int)]).bind fun t8 => (atI t8 x7).bind fun t9 => (atI reads3 x7).bind fun t10 => some (t9, t10)) is6).bind fun due12 => (f_track_of found).bind fun sign14 => (f_is_line_plan ((tp PyData.int) found)).bind fun t15 => (f_w_same (PyData.bool t15) (PyData.bool true)).bind fun t16 => (orO (!t16) ((orO (!true) ((f_w_buds sign14).bind fun t17 => some (!decide (t17 = (some due12))))).bind fun t18 => some t18)).bind fun t19 => if t19 = true then some false else (f_turns_of sign14).bind fun t21 => (f_w_same ((tp (p2 PyData.int PyData.int)) t21) ((tp (p2 PyData.int PyData.int)) due12)).bind fun t22 => (orO (!t22) ((f_bases_from sign14).bind fun t23 => (f_w_same ((tp PyData.int) t23) ((tp PyData.int) found)).bind fun t24 => some (!t24))).bind fun t25 => if t25 = true then some false else (rngO (1 : Int) (size1 + (1 : Int))).bind fun is27 => (lcC (fun x28 => some true) (fun x28 => (atI writes5 (size1 - x28)).bind fun t29 => some t29) is27).bind fun t30 => (catO [(0 : Int)] t30).bind fun t31 => (f_w_by_reads t31).bind fun turned33 => (f_mirrored found).bind fun t34 => (f_w_same ((tp PyData.int) t34) ((tp PyData.int) turned33)).bind fun t35 => (orO (!t35) ((f_mirrored turned33).bind fun t36 => (f_w_same ((tp PyData.int) t36) ((tp PyData.int) found)).bind fun t37 => some (!t37))).bind fun t38 => if t38 = true then some false else (f_line_reads found).bind fun t40 => (f_w_same ((tp PyData.int) t40) ((tp PyData.int) reads3)).bind fun t41 => (orO (!t41) ((f_line_writes found).bind fun t42 => (f_w_same ((tp PyData.int) t42) ((tp PyData.int) writes5)).bind fun t43 => some (!t43))).bind fun t44 => if t44 = true then some false else if (decide (size1 = (0 : Int))) = true then (f_w_ask (4 : Int) ((tp PyData.int) [])).bind fun t47 => (bD (p_eq t47 ((p3 PyData.str PyData.str PyData.int) (("not" : Str), ("bases" : Str), (-1 : Int))))).bind fun t48 => (andO t48 ((f_w_ask (5 : Int) ((tp PyData.int) [])).bind fun t49 => (bD (p_eq t49 ((p3 PyData.str PyData.str PyData.int) (("not" : Str), ("bases" : Str), (-1 : Int))))).bind fun t50 => some t50)).bind fun t51 => some t51 else (rngO (1 : Int) (size1 + (1 : Int))).bind fun is52 => (lcC (fun x53 => (atI reads3 x53).bind fun t54 => some (decide (t54 = (1 : Int)))) (fun x53 => some x53) is52).bind fun t55 => (maxO1 t55).bind fun cut57 => (f_w_by_reads (cutD reads3 none (some cut57))).bind fun ahead59 => (lcC (fun x60 => some true) (fun x60 => some (x60 - (1 : Int))) (cutD reads3 (some (cut57 + (1 : Int))) none)).bind fun t61 => (catO [(0 : Int)] t61).bind fun t62 => (f_w_by_reads t62).bind fun behind64 => (f_cut_of found).bind fun t65 => (f_w_same (PyData.int t65) (PyData.int cut57)).bind fun t66 => (orO (!t66) ((f_parts_of found).bind fun t67 => (f_w_same ((p2 (tp PyData.int) (tp PyData.int)) t67) ((p2 (tp PyData.int) (tp PyData.int)) (ahead59, behind64))).bind fun t68 => some (!t68))).bind fun t69 => if t69 = true then some false else (f_cut_of found).bind fun t71 => (f_w_same (PyData.int t71) (PyData.int cut57)).bind fun t72 => (orO (!t72) ((f_parts_of found).bind fun t73 => (f_w_same ((p2 (tp PyData.int) (tp PyData.int)) t73) ((p2 (tp PyData.int) (tp PyData.int)) (ahead59, behind64))).bind fun t74 => some (!t74))).bind fun t75 => if t75 = true then some false else (f_line_reads found).bind fun t77 => (f_w_same ((tp PyData.int) t77) ((tp PyData.int) reads3)).bind fun t78 => if (!t78) = true then some false else (f_line_writes found).bind fun t80 => (f_w_same ((tp PyData.int) t80) ((tp PyData.int) writes5)).bind fun t81 => if (!t81) = true then some false else (f_joined_plans ahead59 behind64).bind fun t83 => (f_w_same ((tp PyData.int) t83) ((tp PyData.int) found)).bind fun t84 => some t84
def f_w_sign_holds (text : Str) : Option Bool :=
  (f_w_buds text).bind fun buds2 => (f_is_track (PyData.str text)).bind fun t3 => (f_w_same (PyData.bool t3) (PyData.bool (!buds2.isNone))).bind fun t4 => if (!t4) = true then some false else if buds2.isNone = true then (f_w_ask (6 : Int) (PyData.str text)).bind fun t7 => (bD (p_eq t7 ((p3 PyData.str PyData.str PyData.int) (("not" : Str), ("track" : Str), (-1 : Int))))).bind fun t8 => (andO t8 ((f_w_ask (7 : Int) (PyData.str text)).bind fun t9 => (bD (p_eq t9 ((p3 PyData.str PyData.str PyData.int) (("not" : Str), ("track" : Str), (-1 : Int))))).bind fun t10 => some t10)).bind fun t11 => some t11 else (buds2).bind fun t12 => (lcC (fun x13 => some true) (fun x13 => some x13.2) t12).bind fun t14 => (f_w_by_reads t14).bind fun due16 => (f_w_ask (6 : Int) (PyData.str text)).bind fun t17 => (f_w_same t17 ((p2 PyData.str (tp PyData.int)) (("is" : Str), due16))).bind fun t18 => (orO (!t18) ((f_w_ask (7 : Int) (PyData.str text)).bind fun t19 => (f_w_same t19 ((p2 PyData.str (opt (tp (p2 PyData.int PyData.int)))) (("is" : Str), buds2))).bind fun t20 => some (!t20))).bind fun t21 => if t21 = true then some false else (f_track_of due16).bind fun t23 => (f_w_same (PyData.str t23) (PyData.str text)).bind fun t24 => some t24
def f_w_refused_L1 (found : (List Int)) (k_ : Int) (odd : (List PyData)) (x_1 : PyData) : Option (Lp (Unit) Bool) :=
  (f_is_line_plan x_1).bind fun t10 => (f_w_same (PyData.bool t10) (PyData.bool false)).bind fun t11 => if (!t11) = true then some (.rt false) else some (.nx ())
def f_w_refused_L2 (found : (List Int)) (k_ : Int) (odd : (List PyData)) (x_2 : Int) : Option (Lp (Unit) Bool) :=
  (modO (k_ + x_2) (odd.length : Int)).bind fun t21 => (atI odd t21).bind fun t22 => (f_w_ask x_2 t22).bind fun t23 => (bD (p_ne t23 ((p3 PyData.str PyData.str PyData.int) (("not" : Str), ("bases" : Str), (-1 : Int))))).bind fun t24 => if t24 = true then some (.rt false) else some (.nx ())
def f_w_refused_L3 (x_3 : PyData) : Option (Lp (Unit) Bool) :=
  (f_is_track x_3).bind fun t47 => (f_w_same (PyData.bool t47) (PyData.bool false)).bind fun t48 => (orO (!t48) ((f_w_ask (6 : Int) x_3).bind fun t49 => (bD (p_ne t49 ((p3 PyData.str PyData.str PyData.int) (("not" : Str), ("track" : Str), (-1 : Int))))).bind fun t50 => some t50)).bind fun t51 => if t51 = true then some (.rt false) else (f_w_ask (7 : Int) x_3).bind fun t53 => (bD (p_ne t53 ((p3 PyData.str PyData.str PyData.int) (("not" : Str), ("track" : Str), (-1 : Int))))).bind fun t54 => if t54 = true then some (.rt false) else some (.nx ())
def f_w_refused (found : (List Int)) (k_ : Int) : Option Bool :=
  (some (found.length : Int)).bind fun size1 => (catO (List.map PyData.int found) [(PyData.bool true)]).bind fun t2 => (catO found [(-1 : Int)]).bind fun t3 => (catO found [(size1 + (1 : Int))]).bind fun t4 => (catO (List.map PyData.int found) [(PyData.str ("0" : Str))]).bind fun t5 => (catO [(PyData.bool false)] (List.map PyData.int (cutD found (some (1 : Int)) none))).bind fun t6 => (vD (p_add ((tp PyData.int) found) ((p1 nn) ()))).bind fun t7 => (some [((ls PyData.int) found), (nn ()), (PyData.str ("-" : Str)), (PyData.int (7 : Int)), ((tp idD) t2), ((tp PyData.int) t3), ((tp PyData.int) t4), ((tp idD) t5), ((p1 (p1 PyData.int)) (0 : Int)), ((tp idD) t6), t7, ((p3 PyData.int PyData.bool PyData.int) ((0 : Int), true, (0 : Int))), ((p4 PyData.int PyData.int PyData.bool PyData.int) ((0 : Int), (1 : Int), false, (3 : Int)))]).bind fun odd8 => thenL (forG (fun x_1 (s_ : Unit) => f_w_refused_L1 found k_ odd8 x_1) odd8 ()) (fun r_ => some r_) fun s17 => (rng1O (6 : Int)).bind fun is19 => thenL (forG (fun x_2 (s_ : Unit) => f_w_refused_L2 found k_ odd8 x_2) is19 ()) (fun r_ => some r_) fun s32 => (modO (k_ + (6 : Int)) (odd8.length : Int)).bind fun t34 => (atI odd8 t34).bind fun first36 => (f_w_ask_two first36 ((tp PyData.int) found)).bind fun t37 => (bD (p_ne t37 ((p3 PyData.str PyData.str PyData.int) (("not" : Str), ("one" : Str), (-1 : Int))))).bind fun t38 => (orO t38 ((f_w_ask_two first36 first36).bind fun t39 => (bD (p_ne t39 ((p3 PyData.str PyData.str PyData.int) (("not" : Str), ("one" : Str), (-1 : Int))))).bind fun t40 => some t40)).bind fun t41 => if t41 = true then some false else (f_w_ask_two ((tp PyData.int) found) first36).bind fun t43 => (bD (p_ne t43 ((p3 PyData.str PyData.str PyData.int) (("not" : Str), ("other" : Str), (-1 : Int))))).bind fun t44 => if t44 = true then some false else thenL (forG (fun x_3 (s_ : Unit) => f_w_refused_L3 x_3) [((p1 PyData.str) ("-" : Str)), ((tp PyData.int) []), (nn ()), (PyData.int (5 : Int)), (PyData.bool true), ((ls PyData.str) [("+--" : Str)]), ((p3 PyData.str PyData.str PyData.str) (("+" : Str), ("-" : Str), ("-" : Str)))] ()) (fun r_ => some r_) fun s66 => (f_w_ask (7 : Int) ((p1 (p2 PyData.int PyData.int)) ((0 : Int), (0 : Int)))).bind fun t68 => (bD (p_eq t68 ((p3 PyData.str PyData.str PyData.int) (("not" : Str), ("track" : Str), (-1 : Int))))).bind fun t69 => some t69
def f_w_far_told (hand : ((List Int) × Int × Int × Int × Int)) : Option (Bool × ((List Int) × Int × Int × Int × Int)) :=
  (f_w_plan hand (45 : Int)).bind fun t1 => (some t1.1).bind fun far2 => (f_w_take t1.2 (30 : Int)).bind fun t3 => (mulSO ("+-" : Str) t3.1).bind fun t4 => (mulSO ("+" : Str) (30 : Int)).bind fun t5 => (adSO t4 t5).bind fun long7 => (f_is_line_plan ((tp PyData.int) far2)).bind fun t8 => (f_w_same (PyData.bool t8) (PyData.bool true)).bind fun t9 => (orO (!t9) ((catO far2 [(46 : Int)]).bind fun t10 => (f_is_line_plan ((tp PyData.int) t10)).bind fun t11 => (f_w_same (PyData.bool t11) (PyData.bool false)).bind fun t12 => some (!t12))).bind fun t13 => if t13 = true then some (false, t3.2) else (mulSO ("-" : Str) (31 : Int)).bind fun t15 => (adSO long7 t15).bind fun t16 => (f_is_track (PyData.str t16)).bind fun t17 => (f_w_same (PyData.bool t17) (PyData.bool true)).bind fun t18 => if (!t18) = true then some (false, t3.2) else (mulSO ("-" : Str) (30 : Int)).bind fun t20 => (adSO long7 t20).bind fun t21 => (f_is_track (PyData.str t21)).bind fun t22 => (f_w_same (PyData.bool t22) (PyData.bool false)).bind fun t23 => some (t23, t3.2)
def f_w_bent_holds (hand : ((List Int) × Int × Int × Int × Int)) (found : (List Int)) : Option (Bool × ((List Int) × Int × Int × Int × Int)) :=
  (f_w_take hand (found.length : Int)).bind fun t1 => (some t1.1).bind fun p_2 => (f_w_take t1.2 (p_2 + (3 : Int))).bind fun t3 => (catO (cutD found none (some p_2)) [(t3.1 - (1 : Int))]).bind fun t4 => (catO t4 (cutD found (some (p_2 + (1 : Int))) none)).bind fun bent6 => (f_w_is_plan bent6).bind fun t7 => if t7 = true then (f_w_plan_holds bent6).bind fun t9 => some (t9, t3.2) else (f_is_line_plan ((tp PyData.int) bent6)).bind fun t10 => (f_w_same (PyData.bool t10) (PyData.bool false)).bind fun t11 => if (!t11) = true then some (false, t3.2) else (rng1O (6 : Int)).bind fun is13 => (lcC (fun x14 => (f_w_ask x14 ((tp PyData.int) bent6)).bind fun t15 => (bD (p_ne t15 ((p3 PyData.str PyData.str PyData.int) (("not" : Str), ("bases" : Str), (-1 : Int))))).bind fun t16 => some t16) (fun x14 => some x14) is13).bind fun t17 => some ((decide (t17 = [])), t3.2)
def f_law_J2 (wider : Int) (hand_ : ((List Int) × Int × Int × Int × Int)) (size_ : Int) : Option (Bool) :=
  (f_w_plan hand_ size_).bind fun t11 => (some t11.1).bind fun found12 => (f_w_take t11.2 (7 : Int)).bind fun t13 => (f_w_plan t13.2 t13.1).bind fun t14 => (some t14.1).bind fun small15 => (f_w_plan_holds found12).bind fun t16 => (orO (!t16) ((f_w_plan_holds small15).bind fun t17 => some (!t17))).bind fun t18 => if t18 = true then some false else (some (cutD found12 none (some (13 : Int)))).bind fun rest20 => (f_w_reads small15).bind fun t21 => (catO t21 [(1 : Int)]).bind fun t22 => (f_w_reads rest20).bind fun t23 => (lcC (fun x24 => some true) (fun x24 => some (x24 + (1 : Int))) (cutD t23 (some (1 : Int)) none)).bind fun t25 => (catO t22 t25).bind fun t26 => (f_w_by_reads t26).bind fun due28 => (f_joined_plans small15 rest20).bind fun t29 => (f_w_same ((tp PyData.int) t29) ((tp PyData.int) due28)).bind fun t30 => if (!t30) = true then some false else (f_joined_plans small15 rest20).bind fun t32 => (f_w_same ((tp PyData.int) t32) ((tp PyData.int) due28)).bind fun t33 => if (!t33) = true then some false else (f_w_take t14.2 (10 : Int)).bind fun t35 => (f_w_sign t35.2 t35.1).bind fun t36 => (some t36.1).bind fun sign37 => (f_w_sign_holds sign37).bind fun t38 => (if (!t38) = true then some (true, t36.2) else (f_w_spoilt t36.2 sign37).bind fun t39 => (f_w_sign_holds t39.1).bind fun t40 => (orO (!t40) ((f_w_sign_holds ("" : Str)).bind fun t41 => some (!t41))).bind fun t42 => some (t42, t39.2)).bind fun t43 => if t43.1 = true then some false else (adSO sign37 (" " : Str)).bind fun t45 => (f_w_sign_holds t45).bind fun t46 => if (!t46) = true then some false else (if (decide ((0 : Int) < size_)) = true then (f_w_bent_holds t43.2 found12).bind fun t48 => some ((!t48.1), t48.2) else some (false, t43.2)).bind fun t49 => if t49.1 = true then some false else (f_w_take t49.2 (11 : Int)).bind fun t51 => (f_w_refused small15 t51.1).bind fun t52 => if (!t52) = true then some false else (if (decide (wider = (3 : Int))) = true then (f_w_far_told t51.2 ).bind fun t54 => some ((!t54.1), t54.2) else some (false, t51.2)).bind fun t55 => if t55.1 = true then some false else (f_track_of found12).bind fun t57 => (f_track_of found12).bind fun t58 => (f_w_same (PyData.str t57) (PyData.str t58)).bind fun t59 => if (!t59) = true then some false else (f_turns_of sign37).bind fun t61 => (f_turns_of sign37).bind fun t62 => (f_w_same ((tp (p2 PyData.int PyData.int)) t61) ((tp (p2 PyData.int PyData.int)) t62)).bind fun t63 => if (!t63) = true then some false else (f_is_line_plan ((tp PyData.int) found12)).bind fun t65 => (f_w_same (PyData.bool t65) (PyData.bool true)).bind fun t66 => (orO (!t66) ((f_is_track (PyData.str sign37)).bind fun t67 => (f_w_same (PyData.bool t67) (PyData.bool true)).bind fun t68 => some (!t68))).bind fun t69 => if t69 = true then some false else (f_mirrored found12).bind fun t71 => (f_mirrored t71).bind fun t72 => (f_w_same ((tp PyData.int) t72) ((tp PyData.int) found12)).bind fun t73 => if (!t73) = true then some false else (f_track_of small15).bind fun t75 => (f_bases_from t75).bind fun t76 => (f_w_same ((tp PyData.int) t76) ((tp PyData.int) small15)).bind fun t77 => some t77
def f_law_J1 (hand : ((List Int) × Int × Int × Int × Int)) (wider : Int) (size_ : Int) : Option (Bool) :=
  if (decide (wider = (2 : Int))) = true then (f_w_take hand (9 : Int)).bind fun t145 => (some ((10 : Int) + t145.1)).bind fun size146 => f_law_J2 wider t145.2 size146 else f_law_J2 wider hand size_
def f_law (script : (List Int)) : Option Bool :=
  (f_w_hand script).bind fun t1 => (f_w_take t1 (10 : Int)).bind fun t2 => (some t2.1).bind fun size3 => (f_w_take t2.2 (8 : Int)).bind fun t4 => (some t4.1).bind fun wider5 => if (decide (wider5 = (1 : Int))) = true then (some (20 : Int)).bind fun size219 => f_law_J1 t4.2 wider5 size219 else f_law_J1 t4.2 wider5 size3
end
end K24
namespace K24
open PySem PySem.Spec PyProof.Rows L2 DL
theorem k_is_integer {thing : PyData} {r : Bool} (h : f_is_integer thing = some r) : F_is_integer [idD thing] = some (.im (PyData.bool r)) := by
  unfold f_is_integer at h
  refine t_fnI (enc := PyData.bool) rfl ?_
  show wS _ [im (idD thing)] _
  obtain ⟨t1, h_t1, h⟩ := bnd h
  obtain ⟨t3, h_t3, h⟩ := bnd h
  cases h
  refine (w_ret (andX (isX (vI rfl) rfl h_t1) h_t3 (fun _ _ hq => (by obtain ⟨t2, h_t2, hq⟩ := bnd hq; have hq := Option.some.inj hq; subst hq; exact (notX (isX (vI rfl) rfl h_t2))))) ?_)
  exact rfl
theorem k_last_full {bases : (List Int)} {r : Int} (h : f_last_full bases = some r) : F_last_full [(tp PyData.int) bases] = some (.im (PyData.int r)) := by
  unfold f_last_full at h
  refine t_fnI (enc := PyData.int) rfl ?_
  show wS _ [im ((tp PyData.int) bases), none, none, none] _
  obtain ⟨found1, h_found1, h⟩ := bnd h
  refine w_seq ((t_set (f := PyData.int) (v := (0 : Int)) (w := found1) h_found1 cI rfl ?_))
  show wS _ [im ((tp PyData.int) bases), im (PyData.int found1), none, none] _
  obtain ⟨found11, hl, h⟩ := bnd h
  refine w_seq ((t_forS (p2 PyData.int PyData.int) (enumL1 bases) (fun x_1 (found_ : Int) => f_last_full_L1 bases x_1 found_) (fun (found_ : Int) e => ∃ (o6 : Option PyData) (o7 : Option PyData), e = [im ((tp PyData.int) bases), im (PyData.int found_), imo o6, imo o7]) (enumFI (f := PyData.int) (l := bases) (vI rfl)) ⟨none, none, rfl⟩ hl (fun x_1 found_ s2_ h e he => ?_) (fun e he => ?_)))
  · obtain ⟨o6, o7, rfl⟩ := he
    refine ⟨rfl, _, rfl, ?_⟩
    show wS _ [im ((tp PyData.int) bases), im (PyData.int found_), im (PyData.int x_1.1), im (PyData.int x_1.2)] _
    replace h : f_last_full_L1 bases x_1 found_ = some s2_ := h
    unfold f_last_full_L1 at h
    refine (w_if (b := (decide (x_1.2 = (0 : Int)))) (bang (binX (vI rfl) cI rfl rfl e_eq)) (fun hc8 => ?_) (fun hc8 => ?_))
    · rw [if1 hc8] at h
      obtain ⟨found9, h_found9, h⟩ := bnd h
      refine (t_set (f := PyData.int) (v := x_1.1) (w := found9) h_found9 (vI rfl) rfl ?_)
      cases h
      exact ⟨some (PyData.int x_1.1), some (PyData.int x_1.2), rfl⟩
    · rw [if0 hc8] at h
      refine w_nx ?_
      cases h
      exact ⟨some (PyData.int x_1.1), some (PyData.int x_1.2), rfl⟩
  · obtain ⟨o12, o13, rfl⟩ := he
    show wS _ [im ((tp PyData.int) bases), im (PyData.int found11), imo o12, imo o13] _
    cases h
    refine w_seq ((w_ret (vI rfl) ?_))
    exact rfl
theorem k_put_beside {ahead : (List Int)} {behind : (List Int)} {r : (List Int)} (h : f_put_beside ahead behind = some r) : F_put_beside [(tp PyData.int) ahead, (tp PyData.int) behind] = some (.im ((tp PyData.int) r)) := by
  unfold f_put_beside at h
  refine t_fnI (enc := (tp PyData.int)) rfl ?_
  show wS _ [im ((tp PyData.int) ahead), im ((tp PyData.int) behind), none, none] _
  obtain ⟨cut1, h_cut1, h⟩ := bnd h
  refine w_seq ((t_set (f := PyData.int) (v := ((ahead.length : Int) + (1 : Int))) (w := cut1) h_cut1 (binX (cbX (dX (vI rfl) d0 rfl) (o_lenT (f := PyData.int) (l := ahead))) cI rfl rfl e_add) rfl ?_))
  show wS _ [im ((tp PyData.int) ahead), im ((tp PyData.int) behind), im (PyData.int cut1), none] _
  obtain ⟨t2, h_t2, h⟩ := bnd h
  obtain ⟨t4, h_t4, h⟩ := bnd h
  obtain ⟨t5, h_t5, h⟩ := bnd h
  cases h
  refine w_seq ((w_ret (binX (binX (vI rfl) (tupI (aI cI a0) (Nat.le_of_ble_eq_true rfl)) rfl rfl (o_catT (f := PyData.int) (l := ahead) (m := [(0 : Int)]) h_t2)) (cbX (dX (lcX (enc := PyData.int) (encB := PyData.int) h_t4 (seqTX (f := PyData.int) (l := behind) (vI rfl)) rfl (fun x3 _ => ⟨_, rfl, rfl, fun _ hq => (by have hq := Option.some.inj hq; subst hq; rfl), fun _ _ hq => (by have hq := Option.some.inj hq; subst hq; exact ⟨_, (binX (vI rfl) (vI rfl) rfl rfl e_add), rfl, rfl⟩)⟩)) d0 rfl) rfl) rfl rfl (o_catT (f := PyData.int) (l := t2) (m := t4) h_t5)) ?_))
  exact rfl
theorem k_is_track {thing : PyData} {r : Bool} (h : f_is_track thing = some r) : F_is_track [idD thing] = some (.im (PyData.bool r)) := by
  unfold f_is_track at h
  refine t_fnI (enc := PyData.bool) rfl ?_
  show wS _ [im (idD thing), none, none] _
  obtain ⟨t1, h_t1, h⟩ := bnd h
  refine w_seq ((w_if (b := (!t1)) (tnot (bang (isX (vI rfl) rfl h_t1))) (fun hc2 => ?_) (fun hc2 => ?_)))
  · rw [if1 hc2] at h
    cases h
    refine (w_ret cI ?_)
    exact rfl
  · rw [if0 hc2] at h
    refine w_nx ?_
    show wS _ [im (idD thing), none, none] _
    obtain ⟨missing3, h_missing3, h⟩ := bnd h
    refine w_seq ((t_set (f := PyData.int) (v := (1 : Int)) (w := missing3) h_missing3 cI rfl ?_))
    show wS _ [im (idD thing), im (PyData.int missing3), none] _
    obtain ⟨is4, h_is4, h⟩ := bnd h
    obtain ⟨l_, hl, h⟩ := bnd h
    refine w_seq ((t_forG PyData.str is4 (fun x_1 (missing_ : Int) => f_is_track_L1 thing x_1 missing_) (fun (missing_ : Int) e => ∃ (o13 : Option PyData), e = [im (idD thing), im (PyData.int missing_), imo o13]) (rtI PyData.bool) (txtDX (vI rfl) h_is4) ⟨none, rfl⟩ hl (fun x_1 missing_ l2_ h e he => ?_) (fun missing22 hs e he => ?_) (fun r_ hs r2_ e hr => ?_)))
    · obtain ⟨o13, rfl⟩ := he
      refine ⟨rfl, _, rfl, ?_⟩
      show wS _ [im (idD thing), im (PyData.int missing_), im (PyData.str x_1)] _
      replace h : f_is_track_L1 thing x_1 missing_ = some l2_ := h
      unfold f_is_track_L1 at h
      refine w_seq ((w_if (b := (decide (missing_ = (0 : Int)))) (bang (binX (vI rfl) cI rfl rfl e_eq)) (fun hc14 => ?_) (fun hc14 => ?_)))
      · rw [if1 hc14] at h
        cases h
        refine (w_ret cI ?_)
        exact rfl
      · rw [if0 hc14] at h
        refine w_nx ?_
        show wS _ [im (idD thing), im (PyData.int missing_), im (PyData.str x_1)] _
        obtain ⟨t15, h_t15, h⟩ := bnd h
        refine w_seq ((w_if (b := t15) (bang (binX (vI rfl) cI rfl rfl (bD_ok h_t15))) (fun hc16 => ?_) (fun hc16 => ?_)))
        · rw [if1 hc16] at h
          obtain ⟨missing17, h_missing17, h⟩ := bnd h
          refine (t_aug (a := missing_) (b := (1 : Int)) h_missing17 rfl cI rfl ?_)
          show wS _ [im (idD thing), im (PyData.int missing17), im (PyData.str x_1)] _
          refine w_nx ?_
          cases h
          exact ⟨some (PyData.str x_1), rfl⟩
        · rw [if0 hc16] at h
          obtain ⟨t18, h_t18, h⟩ := bnd h
          refine (w_if (b := t18) (bang (binX (vI rfl) cI rfl rfl (bD_ok h_t18))) (fun hc19 => ?_) (fun hc19 => ?_))
          · rw [if1 hc19] at h
            obtain ⟨missing20, h_missing20, h⟩ := bnd h
            refine (t_aug (a := missing_) (b := (1 : Int)) h_missing20 rfl cI rfl ?_)
            show wS _ [im (idD thing), im (PyData.int missing20), im (PyData.str x_1)] _
            refine w_nx ?_
            cases h
            exact ⟨some (PyData.str x_1), rfl⟩
          · rw [if0 hc19] at h
            cases h
            refine (w_ret cI ?_)
            exact rfl
    · subst hs
      replace h : _ = some r := h
      dsimp only at h
      obtain ⟨o23, rfl⟩ := he
      show wS _ [im (idD thing), im (PyData.int missing22), imo o23] _
      cases h
      refine w_seq ((w_ret (binX (vI rfl) cI rfl rfl e_eq) ?_))
      exact rfl
    · subst hs
      cases h
      exact hr
theorem k__law_hand {script : (List Int)} {r : ((List Int) × Int × Int × Int × Int)} (h : f_w_hand script = some r) : F__law_hand [(ls PyData.int) script] = some (.ac ((q5 (ls PyData.int) PyData.int PyData.int PyData.int PyData.int) r)) := by
  unfold f_w_hand at h
  refine t_fnAS (es := (q5 (ls PyData.int) PyData.int PyData.int PyData.int PyData.int)) rfl ?_
  show wS _ [im ((ls PyData.int) script)] _
  cases h
  refine (w_ret (lstX (aA (cbX (dX (vI rfl) d0 rfl) rfl) (aI cI (aI cI (aI cI (aI cI a0))))) (Nat.le_of_ble_eq_true rfl)) ?_)
  exact rfl
theorem k__law_take {hand : ((List Int) × Int × Int × Int × Int)} {most : Int} {r : (Int × ((List Int) × Int × Int × Int × Int))} (h : f_w_take hand most = some r) : F__law_take ((q5 (ls PyData.int) PyData.int PyData.int PyData.int PyData.int) hand) [PyData.int most] = some (.im (PyData.int r.1), (q5 (ls PyData.int) PyData.int PyData.int PyData.int PyData.int) r.2) := by
  unfold f_w_take at h
  refine t_fnMS (enc := PyData.int) (es := (q5 (ls PyData.int) PyData.int PyData.int PyData.int PyData.int)) rfl ?_
  show wS _ [ac ((q5 (ls PyData.int) PyData.int PyData.int PyData.int PyData.int) hand), im (PyData.int most), none, none, none] _
  obtain ⟨hand1, h_hand1, h⟩ := bnd h
  refine w_seq ((t_putR (c := (q5 (ls PyData.int) PyData.int PyData.int PyData.int PyData.int) hand) (c' := (q5 (ls PyData.int) PyData.int PyData.int PyData.int PyData.int) hand1) (j := 4) ⟨_, (binX (binX (vB rfl) cI rfl rfl rfl) cI rfl rfl e_add), rfl⟩ rfl cI rfl rfl (Option.some.inj h_hand1 ▸ rfl) ?_))
  show wS _ [ac ((q5 (ls PyData.int) PyData.int PyData.int PyData.int PyData.int) hand1), im (PyData.int most), none, none, none] _
  refine w_seq ((w_if (b := (decide ((hand1.1.length : Int) = (0 : Int)))) (bang (binX (cbX (dX (binX (vB rfl) cI rfl rfl rfl) d0 rfl) (o_lenL (f := PyData.int) (l := hand1.1))) cI rfl rfl e_eq)) (fun hc2 => ?_) (fun hc2 => ?_)))
  · rw [if1 hc2] at h
    obtain ⟨t3, h_t3, h⟩ := bnd h
    cases h
    refine (w_ret (binX (cbX (dX (binX cI (binX cI (binX (vB rfl) cI rfl rfl rfl) rfl rfl (e_mul (.inl (by decide)))) rfl rfl e_add) d0 rfl) o_int) (vI rfl) rfl rfl (o_mod h_t3)) ?_)
    exact ⟨rfl, rfl⟩
  · rw [if0 hc2] at h
    refine w_nx ?_
    show wS _ [ac ((q5 (ls PyData.int) PyData.int PyData.int PyData.int PyData.int) hand1), im (PyData.int most), none, none, none] _
    refine t_join (fun (hand_ : ((List Int) × Int × Int × Int × Int)) e => ∃ (o24 : Option PyData), e = [ac ((q5 (ls PyData.int) PyData.int PyData.int PyData.int PyData.int) hand_), im (PyData.int most), none, imo o24, none]) (fun (hand_ : ((List Int) × Int × Int × Int × Int)) => f_w_take_J1 most hand_) (t := r) (fun hand_ e he h => ?_) ?_
    · obtain ⟨o24, rfl⟩ := he
      replace h : f_w_take_J1 most hand_ = some r := h
      unfold f_w_take_J1 at h
      show wS _ [ac ((q5 (ls PyData.int) PyData.int PyData.int PyData.int PyData.int) hand_), im (PyData.int most), none, imo o24, none] _
      refine w_seq ((w_if (b := (decide ((0 : Int) < hand_.2.2.1))) (bang (binX (binX (vB rfl) cI rfl rfl rfl) cI rfl rfl e_qgt)) (fun hc25 => ?_) (fun hc25 => ?_)))
      · rw [if1 hc25] at h
        obtain ⟨digit27, h_t26, h⟩ := bnd h
        refine w_seq ((t_set (f := PyData.int) (v := digit27) (w := digit27) rfl (binX (cbX (dX (binX (vB rfl) cI rfl rfl rfl) d0 rfl) o_int) (vI rfl) rfl rfl (o_mod h_t26)) rfl ?_))
        show wS _ [ac ((q5 (ls PyData.int) PyData.int PyData.int PyData.int PyData.int) hand_), im (PyData.int most), none, imo o24, im (PyData.int digit27)] _
        obtain ⟨t28, h_t28, h⟩ := bnd h
        obtain ⟨hand29, h_hand29, h⟩ := bnd h
        refine w_seq ((t_putR (c := (q5 (ls PyData.int) PyData.int PyData.int PyData.int PyData.int) hand_) (c' := (q5 (ls PyData.int) PyData.int PyData.int PyData.int PyData.int) hand29) (j := 2) ⟨_, (binX (binX (vB rfl) cI rfl rfl rfl) (vI rfl) rfl rfl (o_div h_t28)), rfl⟩ rfl cI rfl rfl (Option.some.inj h_hand29 ▸ rfl) ?_))
        show wS _ [ac ((q5 (ls PyData.int) PyData.int PyData.int PyData.int PyData.int) hand29), im (PyData.int most), none, imo o24, im (PyData.int digit27)] _
        cases h
        refine w_seq ((w_ret (vI rfl) ?_))
        exact ⟨rfl, rfl⟩
      · rw [if0 hc25] at h
        refine w_nx ?_
        show wS _ [ac ((q5 (ls PyData.int) PyData.int PyData.int PyData.int PyData.int) hand_), im (PyData.int most), none, imo o24, none] _
        obtain ⟨mixed30, h_mixed30, h⟩ := bnd h
        refine w_seq ((t_set (f := PyData.int) (v := (((hand_.2.2.2.1 + (hand_.2.2.2.2 * (40503 : Int))) * (48271 : Int)) % (2147483647 : Int))) (w := mixed30) h_mixed30 (binX (cbX (dX (binX (binX (binX (vB rfl) cI rfl rfl rfl) (binX (binX (vB rfl) cI rfl rfl rfl) cI rfl rfl (e_mul (.inr (by decide)))) rfl rfl e_add) cI rfl rfl (e_mul (.inr (by decide)))) d0 rfl) o_int) cI rfl rfl (e_mod (by decide))) rfl ?_))
        show wS _ [ac ((q5 (ls PyData.int) PyData.int PyData.int PyData.int PyData.int) hand_), im (PyData.int most), im (PyData.int mixed30), imo o24, none] _
        obtain ⟨t31, h_t31, h⟩ := bnd h
        obtain ⟨mixed32, h_mixed32, h⟩ := bnd h
        refine w_seq ((t_set (f := PyData.int) (v := ((t31 + hand_.2.2.2.2) % (1000003 : Int))) (w := mixed32) h_mixed32 (binX (cbX (dX (binX (binX (vI rfl) (vI rfl) rfl rfl (o_mul h_t31)) (binX (vB rfl) cI rfl rfl rfl) rfl rfl e_add) d0 rfl) o_int) cI rfl rfl (e_mod (by decide))) rfl ?_))
        show wS _ [ac ((q5 (ls PyData.int) PyData.int PyData.int PyData.int PyData.int) hand_), im (PyData.int most), im (PyData.int mixed32), imo o24, none] _
        obtain ⟨t33, h_t33, h⟩ := bnd h
        cases h
        refine w_seq ((w_ret (binX (cbX (dX (binX (binX (cbX (dX (binX (binX (vI rfl) cI rfl rfl (e_mul (.inr (by decide)))) (binX (vB rfl) cI rfl rfl rfl) rfl rfl e_add) d0 rfl) o_int) cI rfl rfl (e_mod (by decide))) cI rfl rfl (e_div (by decide) (by decide))) d0 rfl) o_int) (vI rfl) rfl rfl (o_mod h_t33)) ?_))
        exact ⟨rfl, rfl⟩
    · refine ((w_if (b := ((decide (hand1.2.2.1 = (0 : Int))) && (decide (hand1.2.1 < (hand1.1.length : Int))))) (tandXt (bang (binX (binX (vB rfl) cI rfl rfl rfl) cI rfl rfl e_eq)) (bang (binX (binX (vB rfl) cI rfl rfl rfl) (cbX (dX (binX (vB rfl) cI rfl rfl rfl) d0 rfl) (o_lenL (f := PyData.int) (l := hand1.1))) rfl rfl e_qlt))) (fun hc4 => ?_) (fun hc4 => ?_)))
      · rw [if1 hc4] at h
        obtain ⟨cell35, h_t34, h⟩ := bnd h
        refine w_seq ((t_set (f := PyData.int) (v := cell35) (w := cell35) rfl (binX (binX (vB rfl) cI rfl rfl rfl) (binX (vB rfl) cI rfl rfl rfl) rfl rfl (o_ixL (f := PyData.int) (l := hand1.1) h_t34)) rfl ?_))
        show wS _ [ac ((q5 (ls PyData.int) PyData.int PyData.int PyData.int PyData.int) hand1), im (PyData.int most), none, im (PyData.int cell35), none] _
        obtain ⟨hand36, h_hand36, h⟩ := bnd h
        refine w_seq ((t_putR (c := (q5 (ls PyData.int) PyData.int PyData.int PyData.int PyData.int) hand1) (c' := (q5 (ls PyData.int) PyData.int PyData.int PyData.int PyData.int) hand36) (j := 1) ⟨_, (binX (binX (vB rfl) cI rfl rfl rfl) cI rfl rfl e_add), rfl⟩ rfl cI rfl rfl (Option.some.inj h_hand36 ▸ rfl) ?_))
        show wS _ [ac ((q5 (ls PyData.int) PyData.int PyData.int PyData.int PyData.int) hand36), im (PyData.int most), none, im (PyData.int cell35), none] _
        obtain ⟨hand37, h_hand37, h⟩ := bnd h
        refine w_seq ((t_putR (c := (q5 (ls PyData.int) PyData.int PyData.int PyData.int PyData.int) hand36) (c' := (q5 (ls PyData.int) PyData.int PyData.int PyData.int PyData.int) hand37) (j := 3) ⟨_, (binX (cbX (dX (binX (binX (binX (binX (vB rfl) cI rfl rfl rfl) cI rfl rfl (e_mul (.inr (by decide)))) (vI rfl) rfl rfl e_add) cI rfl rfl e_add) d0 rfl) o_int) cI rfl rfl (e_mod (by decide))), rfl⟩ rfl cI rfl rfl (Option.some.inj h_hand37 ▸ rfl) ?_))
        show wS _ [ac ((q5 (ls PyData.int) PyData.int PyData.int PyData.int PyData.int) hand37), im (PyData.int most), none, im (PyData.int cell35), none] _
        obtain ⟨t38, h_t38, h⟩ := bnd h
        refine w_seq ((w_if (b := (decide (t38 ≤ (if cell35 < 0 then -cell35 else cell35)))) (bang (binX (cbX (dX (vI rfl) d0 rfl) o_abs) (binX cI cI rfl rfl (o_pow h_t38)) rfl rfl e_qge)) (fun hc39 => ?_) (fun hc39 => ?_)))
        · rw [if1 hc39] at h
          obtain ⟨t40, h_t40, h⟩ := bnd h
          obtain ⟨t41, h_t41, h⟩ := bnd h
          obtain ⟨hand42, h_hand42, h⟩ := bnd h
          refine (t_putR (c := (q5 (ls PyData.int) PyData.int PyData.int PyData.int PyData.int) hand37) (c' := (q5 (ls PyData.int) PyData.int PyData.int PyData.int PyData.int) hand42) (j := 2) ⟨_, (binX (cbX (dX (cbX (dX (vI rfl) d0 rfl) o_abs) d0 rfl) o_int) (binX cI cI rfl rfl (o_pow h_t40)) rfl rfl (o_mod h_t41)), rfl⟩ rfl cI rfl rfl (Option.some.inj h_hand42 ▸ rfl) ?_)
          show wS _ [ac ((q5 (ls PyData.int) PyData.int PyData.int PyData.int PyData.int) hand42), im (PyData.int most), none, im (PyData.int cell35), none] _
          refine w_nx ?_
          exact ⟨hand42, ⟨some (PyData.int cell35), rfl⟩, h⟩
        · rw [if0 hc39] at h
          refine w_nx ?_
          show wS _ [ac ((q5 (ls PyData.int) PyData.int PyData.int PyData.int PyData.int) hand37), im (PyData.int most), none, im (PyData.int cell35), none] _
          refine w_nx ?_
          exact ⟨hand37, ⟨some (PyData.int cell35), rfl⟩, h⟩
      · rw [if0 hc4] at h
        refine w_nx ?_
        exact ⟨hand1, ⟨none, rfl⟩, h⟩
theorem k__law_is_plan {found : (List Int)} {r : Bool} (h : f_w_is_plan found = some r) : F__law_is_plan [(tp PyData.int) found] = some (.im (PyData.bool r)) := by
  unfold f_w_is_plan at h
  refine t_fnI (enc := PyData.bool) rfl ?_
  show wS _ [im ((tp PyData.int) found), none, none] _
  obtain ⟨is1, h_is1, h⟩ := bnd h
  obtain ⟨l_, hl, h⟩ := bnd h
  refine w_seq ((t_forG PyData.int is1 (fun x_1 (s_ : Unit) => f_w_is_plan_L1 found x_1) (fun (s_ : Unit) e => ∃ (o20 : Option PyData) (o21 : Option PyData), e = [im ((tp PyData.int) found), imo o20, imo o21]) (rtI PyData.bool) (rng1I (cbX (dX (vI rfl) d0 rfl) (o_lenT (f := PyData.int) (l := found))) h_is1) ⟨none, none, rfl⟩ hl (fun x_1 s_ l2_ h e he => ?_) (fun s34 hs e he => ?_) (fun r_ hs r2_ e hr => ?_)))
  · obtain ⟨o20, o21, rfl⟩ := he
    refine ⟨rfl, _, rfl, ?_⟩
    show wS _ [im ((tp PyData.int) found), im (PyData.int x_1), imo o21] _
    replace h : f_w_is_plan_L1 found x_1 = some l2_ := h
    unfold f_w_is_plan_L1 at h
    obtain ⟨t22, h_t22, h⟩ := bnd h
    obtain ⟨t24, h_t24, h⟩ := bnd h
    refine w_seq ((w_if (b := t24) (torX (bang (binX (binX (vI rfl) (vI rfl) rfl rfl (o_ixT (f := PyData.int) (l := found) h_t22)) cI rfl rfl e_qlt)) h_t24 (fun _ _ hq => (by obtain ⟨t23, h_t23, hq⟩ := bnd hq; have hq := Option.some.inj hq; subst hq; exact (bang (binX (binX (vI rfl) (vI rfl) rfl rfl (o_ixT (f := PyData.int) (l := found) h_t23)) (vI rfl) rfl rfl e_qgt))))) (fun hc25 => ?_) (fun hc25 => ?_)))
    · rw [if1 hc25] at h
      cases h
      refine (w_ret cI ?_)
      exact rfl
    · rw [if0 hc25] at h
      refine w_nx ?_
      show wS _ [im ((tp PyData.int) found), im (PyData.int x_1), imo o21] _
      obtain ⟨t26, h_t26, h⟩ := bnd h
      obtain ⟨is27, h_is27, h⟩ := bnd h
      obtain ⟨l_, hl, h⟩ := bnd h
      refine w_seq ((t_forG PyData.int is27 (fun x_2 (s_ : Unit) => f_w_is_plan_L2 found x_1 x_2) (fun (s_ : Unit) e => ∃ (o28 : Option PyData), e = [im ((tp PyData.int) found), im (PyData.int x_1), imo o28]) (rtI PyData.bool) (rng2I (binX (binX (vI rfl) (vI rfl) rfl rfl (o_ixT (f := PyData.int) (l := found) h_t26)) cI rfl rfl e_add) (binX (vI rfl) cI rfl rfl e_add) h_is27) ⟨o21, rfl⟩ hl (fun x_2 s_ l2_ h e he => ?_) (fun s32 hs e he => ?_) (fun r_ hs r2_ e hr => ?_)))
      · obtain ⟨o28, rfl⟩ := he
        refine ⟨rfl, _, rfl, ?_⟩
        show wS _ [im ((tp PyData.int) found), im (PyData.int x_1), im (PyData.int x_2)] _
        replace h : f_w_is_plan_L2 found x_1 x_2 = some l2_ := h
        unfold f_w_is_plan_L2 at h
        obtain ⟨t29, h_t29, h⟩ := bnd h
        obtain ⟨t30, h_t30, h⟩ := bnd h
        refine (w_if (b := (decide (t30 < t29))) (bang (binX (binX (vI rfl) (vI rfl) rfl rfl (o_ixT (f := PyData.int) (l := found) h_t29)) (binX (vI rfl) (binX (vI rfl) cI rfl rfl e_sub) rfl rfl (o_ixT (f := PyData.int) (l := found) h_t30)) rfl rfl e_qgt)) (fun hc31 => ?_) (fun hc31 => ?_))
        · rw [if1 hc31] at h
          cases h
          refine (w_ret cI ?_)
          exact rfl
        · rw [if0 hc31] at h
          refine w_nx ?_
          cases h
          exact ⟨some (PyData.int x_2), rfl⟩
      · subst hs
        replace h : _ = some l2_ := h
        dsimp only at h
        obtain ⟨o33, rfl⟩ := he
        show wS _ [im ((tp PyData.int) found), im (PyData.int x_1), imo o33] _
        refine w_nx ?_
        cases h
        exact ⟨some (PyData.int x_1), o33, rfl⟩
      · subst hs
        cases h
        exact hr
  · subst hs
    replace h : _ = some r := h
    dsimp only at h
    obtain ⟨o35, o36, rfl⟩ := he
    show wS _ [im ((tp PyData.int) found), imo o35, imo o36] _
    cases h
    refine w_seq ((w_ret cI ?_))
    exact rfl
  · subst hs
    cases h
    exact hr
theorem k__law_reads {found : (List Int)} {r : (List Int)} (h : f_w_reads found = some r) : F__law_reads [(tp PyData.int) found] = some (.ac (r.map PyData.int)) := by
  unfold f_w_reads at h
  refine t_fnA (enc := PyData.int) rfl ?_
  show wS _ [im ((tp PyData.int) found), none, none] _
  obtain ⟨reads1, h_reads1, h⟩ := bnd h
  refine w_seq ((t_setA (f := PyData.int) (v := [(0 : Int)]) (w := reads1) h_reads1 (lstX (aI cI a0) (Nat.le_of_ble_eq_true rfl)) rfl ?_))
  show wS _ [im ((tp PyData.int) found), ac (reads1.map PyData.int), none] _
  obtain ⟨reads9, hl, h⟩ := bnd h
  refine w_seq ((t_forS PyData.int found (fun x_1 (reads_ : (List Int)) => f_w_reads_L1 found x_1 reads_) (fun (reads_ : (List Int)) e => ∃ (o5 : Option PyData), e = [im ((tp PyData.int) found), ac (reads_.map PyData.int), imo o5]) (seqTX (f := PyData.int) (l := found) (vI rfl)) ⟨none, rfl⟩ hl (fun x_1 reads_ s2_ h e he => ?_) (fun e he => ?_)))
  · obtain ⟨o5, rfl⟩ := he
    refine ⟨rfl, _, rfl, ?_⟩
    show wS _ [im ((tp PyData.int) found), ac (reads_.map PyData.int), im (PyData.int x_1)] _
    replace h : f_w_reads_L1 found x_1 reads_ = some s2_ := h
    unfold f_w_reads_L1 at h
    obtain ⟨t6, h_t6, h⟩ := bnd h
    obtain ⟨reads7, h_reads7, h⟩ := bnd h
    refine (t_app (f := PyData.int) (l := reads_) (a := (t6 + (1 : Int))) h_reads7 ⟨_, (binX (binX (vB rfl) (vI rfl) rfl rfl (o_ixL (f := PyData.int) (l := reads_) h_t6)) cI rfl rfl e_add), rfl⟩ rfl rfl ?_)
    cases h
    exact ⟨some (PyData.int x_1), rfl⟩
  · obtain ⟨o10, rfl⟩ := he
    show wS _ [im ((tp PyData.int) found), ac (reads9.map PyData.int), imo o10] _
    cases h
    refine w_seq ((w_ret (vB rfl) ?_))
    exact rfl
theorem k__law_writes {found : (List Int)} {r : (List Int)} (h : f_w_writes found = some r) : F__law_writes [(tp PyData.int) found] = some (.ac (r.map PyData.int)) := by
  unfold f_w_writes at h
  refine t_fnA (enc := PyData.int) rfl ?_
  show wS _ [im ((tp PyData.int) found), none, none] _
  obtain ⟨is1, h_is1, h⟩ := bnd h
  obtain ⟨t7, h_t7, h⟩ := bnd h
  cases h
  refine (w_ret (lcX (enc := PyData.int) (encB := PyData.int) h_t7 (rng2I cI (binX (cbX (dX (vI rfl) d0 rfl) (o_lenT (f := PyData.int) (l := found))) cI rfl rfl e_add) h_is1) rfl (fun x2 _ => ⟨_, rfl, rfl, fun _ hq => (by have hq := Option.some.inj hq; subst hq; rfl), fun _ _ hq => (by obtain ⟨is3, h_is3, hq⟩ := bnd hq; obtain ⟨t6, h_t6, hq⟩ := bnd hq; have hq := Option.some.inj hq; subst hq; exact ⟨_, (cbX (dX (lcX (enc := PyData.int) (encB := PyData.int) h_t6 (rng2I (vI rfl) (binX (cbX (dX (vI rfl) d0 rfl) (o_lenT (f := PyData.int) (l := found))) cI rfl rfl e_add) h_is3) rfl (fun x4 _ => ⟨_, rfl, rfl, fun _ hq => (by have hq := Option.some.inj hq; subst hq; rfl), fun _ _ hq => (by obtain ⟨t5, h_t5, hq⟩ := bnd hq; have hq := Option.some.inj hq; subst hq; exact ⟨_, (cbX (dX (binX (binX (vI rfl) (binX (vI rfl) cI rfl rfl e_sub) rfl rfl (o_ixT (f := PyData.int) (l := found) h_t5)) (vI rfl) rfl rfl e_qlt) d0 rfl) o_intB), rfl, rfl⟩)⟩)) d0 rfl) (o_sumL (l := t6))), rfl, rfl⟩)⟩)) ?_)
  exact rfl
theorem k__law_by_reads {reads : (List Int)} {r : (List Int)} (h : f_w_by_reads reads = some r) : F__law_by_reads [(ls PyData.int) reads] = some (.im ((tp PyData.int) r)) := by
  unfold f_w_by_reads at h
  refine t_fnI (enc := (tp PyData.int)) rfl ?_
  show wS _ [im ((ls PyData.int) reads), none, none, none] _
  obtain ⟨found1, h_found1, h⟩ := bnd h
  refine w_seq ((t_setA (f := PyData.int) (v := []) (w := found1) h_found1 (lstX a0 (Nat.le_of_ble_eq_true rfl)) rfl ?_))
  show wS _ [im ((ls PyData.int) reads), ac (found1.map PyData.int), none, none] _
  obtain ⟨is2, h_is2, h⟩ := bnd h
  obtain ⟨found28, hl, h⟩ := bnd h
  refine w_seq ((t_forS PyData.int is2 (fun x_1 (found_ : (List Int)) => f_w_by_reads_L1 reads x_1 found_) (fun (found_ : (List Int)) e => ∃ (o17 : Option PyData) (o18 : Option PyData), e = [im ((ls PyData.int) reads), ac (found_.map PyData.int), imo o17, imo o18]) (rng2I cI (cbX (dX (vI rfl) d0 rfl) (o_lenL (f := PyData.int) (l := reads))) h_is2) ⟨none, none, rfl⟩ hl (fun x_1 found_ s2_ h e he => ?_) (fun e he => ?_)))
  · obtain ⟨o17, o18, rfl⟩ := he
    refine ⟨rfl, _, rfl, ?_⟩
    show wS _ [im ((ls PyData.int) reads), ac (found_.map PyData.int), im (PyData.int x_1), imo o18] _
    replace h : f_w_by_reads_L1 reads x_1 found_ = some s2_ := h
    unfold f_w_by_reads_L1 at h
    obtain ⟨base19, h_base19, h⟩ := bnd h
    refine w_seq ((t_set (f := PyData.int) (v := (x_1 - (1 : Int))) (w := base19) h_base19 (binX (vI rfl) cI rfl rfl e_sub) rfl ?_))
    show wS _ [im ((ls PyData.int) reads), ac (found_.map PyData.int), im (PyData.int x_1), im (PyData.int base19)] _
    obtain ⟨base25, hl, h⟩ := bnd h
    refine w_seq ((t_whS (fun (base_ : Int) => f_w_by_reads_L2c reads found_ x_1 base_) (fun (base_ : Int) => f_w_by_reads_L2 reads found_ x_1 base_) (fun (base_ : Int) e => e = [im ((ls PyData.int) reads), ac (found_.map PyData.int), im (PyData.int x_1), im (PyData.int base_)]) (N := (base19.toNat + 1)) rfl rfl hl (fun base_ b_ h e he => ?_) (fun base_ s2_ h e he => ?_) (fun e he => ?_)))
    · subst he
      replace h : f_w_by_reads_L2c reads found_ x_1 base_ = some b_ := h
      unfold f_w_by_reads_L2c at h
      obtain ⟨t23, h_t23, h⟩ := bnd h
      cases h
      exact (tandX (bang (binX (vI rfl) cI rfl rfl e_qgt)) h_t23 (fun _ _ hq => (by obtain ⟨t21, h_t21, hq⟩ := bnd hq; obtain ⟨t22, h_t22, hq⟩ := bnd hq; have hq := Option.some.inj hq; subst hq; exact (bang (binX (binX (vI rfl) (vI rfl) rfl rfl (o_ixL (f := PyData.int) (l := reads) h_t21)) (binX (vI rfl) (vI rfl) rfl rfl (o_ixL (f := PyData.int) (l := reads) h_t22)) rfl rfl e_qge)))))
    · subst he
      show wS _ [im ((ls PyData.int) reads), ac (found_.map PyData.int), im (PyData.int x_1), im (PyData.int base_)] _
      replace h : f_w_by_reads_L2 reads found_ x_1 base_ = some s2_ := h
      unfold f_w_by_reads_L2 at h
      obtain ⟨base20, h_base20, h⟩ := bnd h
      refine (t_set (f := PyData.int) (v := (base_ - (1 : Int))) (w := base20) h_base20 (binX (vI rfl) cI rfl rfl e_sub) rfl ?_)
      cases h
      exact rfl
    · subst he
      show wS _ [im ((ls PyData.int) reads), ac (found_.map PyData.int), im (PyData.int x_1), im (PyData.int base25)] _
      obtain ⟨found26, h_found26, h⟩ := bnd h
      refine w_seq ((t_app (f := PyData.int) (l := found_) (a := base25) h_found26 ⟨_, (vI rfl), rfl⟩ rfl rfl ?_))
      show wS _ [im ((ls PyData.int) reads), ac (found26.map PyData.int), im (PyData.int x_1), im (PyData.int base25)] _
      refine w_nx ?_
      cases h
      exact ⟨some (PyData.int x_1), some (PyData.int base25), rfl⟩
  · obtain ⟨o29, o30, rfl⟩ := he
    show wS _ [im ((ls PyData.int) reads), ac (found28.map PyData.int), imo o29, imo o30] _
    cases h
    refine w_seq ((w_ret (cbX (dX (vB rfl) d0 rfl) rfl) ?_))
    exact rfl
theorem k__law_buds {text : Str} {r : (Option (List (Int × Int)))} (h : f_w_buds text = some r) : F__law_buds [PyData.str text] = some (.im ((opt (tp (p2 PyData.int PyData.int))) r)) := by
  unfold f_w_buds at h
  refine t_fnI (enc := (opt (tp (p2 PyData.int PyData.int)))) rfl ?_
  show wS _ [im (PyData.str text), none, none, none, none, none] _
  obtain ⟨waiting1, h_waiting1, h⟩ := bnd h
  refine w_seq ((t_setA (f := (p2 PyData.int PyData.int)) (v := [((0 : Int), (0 : Int))]) (w := waiting1) h_waiting1 (lstX (aI (tupI (aI cI (aI cI a0)) (Nat.le_of_ble_eq_true rfl)) a0) (Nat.le_of_ble_eq_true rfl)) rfl ?_))
  show wS _ [im (PyData.str text), ac (waiting1.map (p2 PyData.int PyData.int)), none, none, none, none] _
  obtain ⟨buds2, h_buds2, h⟩ := bnd h
  refine w_seq ((t_setA (f := (p2 PyData.int PyData.int)) (v := []) (w := buds2) h_buds2 (lstX a0 (Nat.le_of_ble_eq_true rfl)) rfl ?_))
  show wS _ [im (PyData.str text), ac (waiting1.map (p2 PyData.int PyData.int)), ac (buds2.map (p2 PyData.int PyData.int)), none, none, none] _
  obtain ⟨l_, hl, h⟩ := bnd h
  refine w_seq ((t_forG PyData.str (DL.signs text) (fun x_1 (s_ : (List (Int × Int)) × (List (Int × Int))) => f_w_buds_L1 text x_1 s_.1 s_.2) (fun (s_ : (List (Int × Int)) × (List (Int × Int))) e => ∃ (o15 : Option PyData) (o16 : Option PyData) (o17 : Option PyData), e = [im (PyData.str text), ac (s_.1.map (p2 PyData.int PyData.int)), ac (s_.2.map (p2 PyData.int PyData.int)), imo o15, imo o16, imo o17]) (rtI (opt (tp (p2 PyData.int PyData.int)))) (txtI (vI rfl)) ⟨none, none, none, rfl⟩ hl (fun x_1 s_ l2_ h e he => ?_) (fun s27 hs e he => ?_) (fun r_ hs r2_ e hr => ?_)))
  · obtain ⟨o15, o16, o17, rfl⟩ := he
    obtain ⟨waiting_, buds_⟩ := s_
    refine ⟨rfl, _, rfl, ?_⟩
    show wS _ [im (PyData.str text), ac (waiting_.map (p2 PyData.int PyData.int)), ac (buds_.map (p2 PyData.int PyData.int)), im (PyData.str x_1), imo o16, imo o17] _
    replace h : f_w_buds_L1 text x_1 waiting_ buds_ = some l2_ := h
    unfold f_w_buds_L1 at h
    obtain ⟨t19, h_t19, h⟩ := bnd h
    refine w_seq ((w_if (b := t19) (torX (bang (binX (cbX (dX (vB rfl) d0 rfl) (o_lenL (f := (p2 PyData.int PyData.int)) (l := waiting_))) cI rfl rfl e_eq)) h_t19 (fun _ _ hq => (by obtain ⟨t18, h_t18, hq⟩ := bnd hq; have hq := Option.some.inj hq; subst hq; exact (bang (binX (vI rfl) (tupI (aI cI (aI cI a0)) (Nat.le_of_ble_eq_true rfl)) rfl rfl (bD_ok h_t18)))))) (fun hc20 => ?_) (fun hc20 => ?_)))
    · rw [if1 hc20] at h
      cases h
      refine (w_ret cI ?_)
      exact rfl
    · rw [if0 hc20] at h
      refine w_nx ?_
      show wS _ [im (PyData.str text), ac (waiting_.map (p2 PyData.int PyData.int)), ac (buds_.map (p2 PyData.int PyData.int)), im (PyData.str x_1), imo o16, imo o17] _
      obtain ⟨pw21, h_pw21, h⟩ := bnd h
      refine w_seq ((t_asg (popX (f := (p2 PyData.int PyData.int)) (l := waiting_) h_pw21 rfl) rfl rfl rfl ?_))
      show wS _ [im (PyData.str text), ac (pw21.2.map (p2 PyData.int PyData.int)), ac (buds_.map (p2 PyData.int PyData.int)), im (PyData.str x_1), im (PyData.int pw21.1.1), im (PyData.int pw21.1.2)] _
      obtain ⟨t22, h_t22, h⟩ := bnd h
      refine w_seq ((w_if (b := t22) (bang (binX (vI rfl) cI rfl rfl (bD_ok h_t22))) (fun hc23 => ?_) (fun hc23 => ?_)))
      · rw [if1 hc23] at h
        obtain ⟨waiting24, h_waiting24, h⟩ := bnd h
        refine w_seq ((t_app (f := (p2 PyData.int PyData.int)) (l := pw21.2) (a := (pw21.1.1, (pw21.1.2 + (1 : Int)))) h_waiting24 ⟨_, (tupI (aI (vI rfl) (aI (binX (vI rfl) cI rfl rfl e_add) a0)) (Nat.le_of_ble_eq_true rfl)), rfl⟩ rfl rfl ?_))
        show wS _ [im (PyData.str text), ac (waiting24.map (p2 PyData.int PyData.int)), ac (buds_.map (p2 PyData.int PyData.int)), im (PyData.str x_1), im (PyData.int pw21.1.1), im (PyData.int pw21.1.2)] _
        obtain ⟨waiting25, h_waiting25, h⟩ := bnd h
        refine w_seq ((t_app (f := (p2 PyData.int PyData.int)) (l := waiting24) (a := ((pw21.1.1 + (1 : Int)), pw21.1.2)) h_waiting25 ⟨_, (tupI (aI (binX (vI rfl) cI rfl rfl e_add) (aI (vI rfl) a0)) (Nat.le_of_ble_eq_true rfl)), rfl⟩ rfl rfl ?_))
        show wS _ [im (PyData.str text), ac (waiting25.map (p2 PyData.int PyData.int)), ac (buds_.map (p2 PyData.int PyData.int)), im (PyData.str x_1), im (PyData.int pw21.1.1), im (PyData.int pw21.1.2)] _
        refine w_nx ?_
        show wS _ [im (PyData.str text), ac (waiting25.map (p2 PyData.int PyData.int)), ac (buds_.map (p2 PyData.int PyData.int)), im (PyData.str x_1), im (PyData.int pw21.1.1), im (PyData.int pw21.1.2)] _
        refine w_nx ?_
        cases h
        exact ⟨some (PyData.str x_1), some (PyData.int pw21.1.1), some (PyData.int pw21.1.2), rfl⟩
      · rw [if0 hc23] at h
        obtain ⟨buds26, h_buds26, h⟩ := bnd h
        refine (t_app (f := (p2 PyData.int PyData.int)) (l := buds_) (a := (pw21.1.1, pw21.1.2)) h_buds26 ⟨_, (tupI (aI (vI rfl) (aI (vI rfl) a0)) (Nat.le_of_ble_eq_true rfl)), rfl⟩ rfl rfl ?_)
        show wS _ [im (PyData.str text), ac (pw21.2.map (p2 PyData.int PyData.int)), ac (buds26.map (p2 PyData.int PyData.int)), im (PyData.str x_1), im (PyData.int pw21.1.1), im (PyData.int pw21.1.2)] _
        refine w_nx ?_
        cases h
        exact ⟨some (PyData.str x_1), some (PyData.int pw21.1.1), some (PyData.int pw21.1.2), rfl⟩
  · subst hs
    replace h : _ = some r := h
    dsimp only at h
    obtain ⟨o28, o29, o30, rfl⟩ := he
    show wS _ [im (PyData.str text), ac (s27.1.map (p2 PyData.int PyData.int)), ac (s27.2.map (p2 PyData.int PyData.int)), imo o28, imo o29, imo o30] _
    refine w_seq ((w_if (b := (decide ((0 : Int) < (s27.1.length : Int)))) (bang (binX (cbX (dX (vB rfl) d0 rfl) (o_lenL (f := (p2 PyData.int PyData.int)) (l := s27.1))) cI rfl rfl e_qgt)) (fun hc31 => ?_) (fun hc31 => ?_)))
    · rw [if1 hc31] at h
      cases h
      refine (w_ret cI ?_)
      exact rfl
    · rw [if0 hc31] at h
      refine w_nx ?_
      show wS _ [im (PyData.str text), ac (s27.1.map (p2 PyData.int PyData.int)), ac (s27.2.map (p2 PyData.int PyData.int)), imo o28, imo o29, imo o30] _
      cases h
      refine w_seq ((w_ret (cbX (dX (vB rfl) d0 rfl) rfl) ?_))
      exact rfl
  · subst hs
    cases h
    exact hr
theorem k_is_number {thing : PyData} {r : Bool} (h : f_is_number thing = some r) : F_is_number [idD thing] = some (.im (PyData.bool r)) := by
  unfold f_is_number at h
  refine t_fnI (enc := PyData.bool) rfl ?_
  show wS _ [im (idD thing)] _
  obtain ⟨t1, h_t1, h⟩ := bnd h
  obtain ⟨t3, h_t3, h⟩ := bnd h
  cases h
  refine (w_ret (andX (callI (aI (vI rfl) a0) rfl (k_is_integer h_t1)) h_t3 (fun _ _ hq => (by obtain ⟨t2, h_t2, hq⟩ := bnd hq; have hq := Option.some.inj hq; subst hq; exact (binX (vI rfl) cI rfl rfl (bD_ok h_t2))))) ?_)
  exact rfl
theorem k_ahead_and_behind {bases : (List Int)} {r : ((List Int) × (List Int))} (h : f_ahead_and_behind bases = some r) : F_ahead_and_behind [(tp PyData.int) bases] = some (.im ((p2 (tp PyData.int) (tp PyData.int)) r)) := by
  unfold f_ahead_and_behind at h
  refine t_fnI (enc := (p2 (tp PyData.int) (tp PyData.int))) rfl ?_
  show wS _ [im ((tp PyData.int) bases), none, none, none, none] _
  obtain ⟨cut2, h_t1, h⟩ := bnd h
  refine w_seq ((t_set (f := PyData.int) (v := cut2) (w := cut2) rfl (callI (aI (vI rfl) a0) rfl (k_last_full h_t1)) rfl ?_))
  show wS _ [im ((tp PyData.int) bases), im (PyData.int cut2), none, none, none] _
  obtain ⟨ahead3, h_ahead3, h⟩ := bnd h
  refine w_seq ((t_set (f := (tp PyData.int)) (v := (cutD bases none (some (cut2 - (1 : Int))))) (w := ahead3) h_ahead3 (cutTX (f := PyData.int) (l := bases) (vI rfl) oN (oA (binX (vI rfl) cI rfl rfl e_sub))) rfl ?_))
  show wS _ [im ((tp PyData.int) bases), im (PyData.int cut2), im ((tp PyData.int) ahead3), none, none] _
  obtain ⟨behind6, h_t5, h⟩ := bnd h
  refine w_seq ((t_set (f := (tp PyData.int)) (v := behind6) (w := behind6) rfl (cbX (dX (lcX (enc := PyData.int) (encB := PyData.int) h_t5 (seqTX (f := PyData.int) (l := (cutD bases (some cut2) none)) (cutTX (f := PyData.int) (l := bases) (vI rfl) (oA (vI rfl)) oN)) rfl (fun x4 _ => ⟨_, rfl, rfl, fun _ hq => (by have hq := Option.some.inj hq; subst hq; rfl), fun _ _ hq => (by have hq := Option.some.inj hq; subst hq; exact ⟨_, (binX (vI rfl) (vI rfl) rfl rfl e_sub), rfl, rfl⟩)⟩)) d0 rfl) rfl) rfl ?_))
  show wS _ [im ((tp PyData.int) bases), im (PyData.int cut2), im ((tp PyData.int) ahead3), im ((tp PyData.int) behind6), none] _
  cases h
  refine w_seq ((w_ret (tupI (aI (vI rfl) (aI (vI rfl) a0)) (Nat.le_of_ble_eq_true rfl)) ?_))
  exact rfl
theorem k__built {track : Str} {is_mirrored : Bool} {r : (List Int)} (h : f_built track is_mirrored = some r) : F__built [PyData.str track, PyData.bool is_mirrored] = some (.im ((tp PyData.int) r)) := by
  unfold f_built at h
  refine t_fnI (enc := (tp PyData.int)) rfl ?_
  show wS _ [im (PyData.str track), im (PyData.bool is_mirrored), none, none, none, none] _
  obtain ⟨held1, h_held1, h⟩ := bnd h
  refine w_seq ((t_setA (f := (tp PyData.int)) (v := []) (w := held1) h_held1 (lstX a0 (Nat.le_of_ble_eq_true rfl)) rfl ?_))
  show wS _ [im (PyData.str track), im (PyData.bool is_mirrored), ac (held1.map (tp PyData.int)), none, none, none] _
  obtain ⟨t2, h_t2, h⟩ := bnd h
  obtain ⟨held34, hl, h⟩ := bnd h
  refine w_seq ((t_forS PyData.str (DL.signs t2) (fun x_1 (held_ : (List (List Int))) => f_built_L1 track is_mirrored x_1 held_) (fun (held_ : (List (List Int))) e => ∃ (o18 : Option PyData) (o19 : Option PyData) (o20 : Option PyData), e = [im (PyData.str track), im (PyData.bool is_mirrored), ac (held_.map (tp PyData.int)), imo o18, imo o19, imo o20]) (txtI (rvSX (vI rfl) h_t2)) ⟨none, none, none, rfl⟩ hl (fun x_1 held_ s2_ h e he => ?_) (fun e he => ?_)))
  · obtain ⟨o18, o19, o20, rfl⟩ := he
    refine ⟨rfl, _, rfl, ?_⟩
    show wS _ [im (PyData.str track), im (PyData.bool is_mirrored), ac (held_.map (tp PyData.int)), im (PyData.str x_1), imo o19, imo o20] _
    replace h : f_built_L1 track is_mirrored x_1 held_ = some s2_ := h
    unfold f_built_L1 at h
    obtain ⟨t21, h_t21, h⟩ := bnd h
    refine w_seq ((w_if (b := t21) (bang (binX (vI rfl) cI rfl rfl (bD_ok h_t21))) (fun hc22 => ?_) (fun hc22 => ?_)))
    · rw [if1 hc22] at h
      obtain ⟨held23, h_held23, h⟩ := bnd h
      refine w_seq ((t_app (f := (tp PyData.int)) (l := held_) (a := []) h_held23 ⟨_, (tupI a0 (Nat.le_of_ble_eq_true rfl)), rfl⟩ rfl rfl ?_))
      show wS _ [im (PyData.str track), im (PyData.bool is_mirrored), ac (held23.map (tp PyData.int)), im (PyData.str x_1), imo o19, imo o20] _
      refine w_seq ((w_ct ?_))
      cases h
      exact ⟨some (PyData.str x_1), o19, o20, rfl⟩
    · rw [if0 hc22] at h
      refine w_nx ?_
      show wS _ [im (PyData.str track), im (PyData.bool is_mirrored), ac (held_.map (tp PyData.int)), im (PyData.str x_1), imo o19, imo o20] _
      obtain ⟨pw24, h_pw24, h⟩ := bnd h
      obtain ⟨ahead25, h_ahead25, h⟩ := bnd h
      refine w_seq ((t_set (f := (tp PyData.int)) (v := pw24.1) (w := ahead25) h_ahead25 (popX (f := (tp PyData.int)) (l := held_) h_pw24 rfl) rfl ?_))
      show wS _ [im (PyData.str track), im (PyData.bool is_mirrored), ac (pw24.2.map (tp PyData.int)), im (PyData.str x_1), im ((tp PyData.int) ahead25), imo o20] _
      obtain ⟨pw26, h_pw26, h⟩ := bnd h
      obtain ⟨behind27, h_behind27, h⟩ := bnd h
      refine w_seq ((t_set (f := (tp PyData.int)) (v := pw26.1) (w := behind27) h_behind27 (popX (f := (tp PyData.int)) (l := pw24.2) h_pw26 rfl) rfl ?_))
      show wS _ [im (PyData.str track), im (PyData.bool is_mirrored), ac (pw26.2.map (tp PyData.int)), im (PyData.str x_1), im ((tp PyData.int) ahead25), im ((tp PyData.int) behind27)] _
      refine w_seq ((w_if (b := is_mirrored) (bang (vI rfl)) (fun hc28 => ?_) (fun hc28 => ?_)))
      · rw [if1 hc28] at h
        obtain ⟨t29, h_t29, h⟩ := bnd h
        obtain ⟨held30, h_held30, h⟩ := bnd h
        refine (t_app (f := (tp PyData.int)) (l := pw26.2) (a := t29) h_held30 ⟨_, (callI (aI (vI rfl) (aI (vI rfl) a0)) rfl (k_put_beside h_t29)), rfl⟩ rfl rfl ?_)
        show wS _ [im (PyData.str track), im (PyData.bool is_mirrored), ac (held30.map (tp PyData.int)), im (PyData.str x_1), im ((tp PyData.int) ahead25), im ((tp PyData.int) behind27)] _
        refine w_nx ?_
        cases h
        exact ⟨some (PyData.str x_1), some ((tp PyData.int) ahead25), some ((tp PyData.int) behind27), rfl⟩
      · rw [if0 hc28] at h
        obtain ⟨t31, h_t31, h⟩ := bnd h
        obtain ⟨held32, h_held32, h⟩ := bnd h
        refine (t_app (f := (tp PyData.int)) (l := pw26.2) (a := t31) h_held32 ⟨_, (callI (aI (vI rfl) (aI (vI rfl) a0)) rfl (k_put_beside h_t31)), rfl⟩ rfl rfl ?_)
        show wS _ [im (PyData.str track), im (PyData.bool is_mirrored), ac (held32.map (tp PyData.int)), im (PyData.str x_1), im ((tp PyData.int) ahead25), im ((tp PyData.int) behind27)] _
        refine w_nx ?_
        cases h
        exact ⟨some (PyData.str x_1), some ((tp PyData.int) ahead25), some ((tp PyData.int) behind27), rfl⟩
  · obtain ⟨o35, o36, o37, rfl⟩ := he
    show wS _ [im (PyData.str track), im (PyData.bool is_mirrored), ac (held34.map (tp PyData.int)), imo o35, imo o36, imo o37] _
    obtain ⟨t38, h_t38, h⟩ := bnd h
    cases h
    refine w_seq ((w_ret (binX (vB rfl) cI rfl rfl (o_ixL (f := (tp PyData.int)) (l := held34) h_t38)) ?_))
    exact rfl
theorem k__law_plan {hand : ((List Int) × Int × Int × Int × Int)} {size : Int} {r : ((List Int) × ((List Int) × Int × Int × Int × Int))} (h : f_w_plan hand size = some r) : F__law_plan ((q5 (ls PyData.int) PyData.int PyData.int PyData.int PyData.int) hand) [PyData.int size] = some (.im ((tp PyData.int) r.1), (q5 (ls PyData.int) PyData.int PyData.int PyData.int PyData.int) r.2) := by
  unfold f_w_plan at h
  refine t_fnMS (enc := (tp PyData.int)) (es := (q5 (ls PyData.int) PyData.int PyData.int PyData.int PyData.int)) rfl ?_
  show wS _ [ac ((q5 (ls PyData.int) PyData.int PyData.int PyData.int PyData.int) hand), im (PyData.int size), none, none, none, none] _
  obtain ⟨found1, h_found1, h⟩ := bnd h
  refine w_seq ((t_setA (f := PyData.int) (v := []) (w := found1) h_found1 (lstX a0 (Nat.le_of_ble_eq_true rfl)) rfl ?_))
  show wS _ [ac ((q5 (ls PyData.int) PyData.int PyData.int PyData.int PyData.int) hand), im (PyData.int size), ac (found1.map PyData.int), none, none, none] _
  obtain ⟨chain2, h_chain2, h⟩ := bnd h
  refine w_seq ((t_setL (f := PyData.int) (v := []) (w := chain2) h_chain2 (lstX a0 (Nat.le_of_ble_eq_true rfl)) rfl ?_))
  show wS _ [ac ((q5 (ls PyData.int) PyData.int PyData.int PyData.int PyData.int) hand), im (PyData.int size), ac (found1.map PyData.int), im ((ls PyData.int) chain2), none, none] _
  obtain ⟨is3, h_is3, h⟩ := bnd h
  obtain ⟨s22, hl, h⟩ := bnd h
  refine w_seq ((t_forS PyData.int is3 (fun x_1 (s_ : ((List Int) × Int × Int × Int × Int) × (List Int) × (List Int)) => f_w_plan_L1 size x_1 s_.1 s_.2.1 s_.2.2) (fun (s_ : ((List Int) × Int × Int × Int × Int) × (List Int) × (List Int)) e => ∃ (o13 : Option PyData) (o14 : Option PyData), e = [ac ((q5 (ls PyData.int) PyData.int PyData.int PyData.int PyData.int) s_.1), im (PyData.int size), ac (s_.2.1.map PyData.int), im ((ls PyData.int) s_.2.2), imo o13, imo o14]) (rng2I cI (binX (vI rfl) cI rfl rfl e_add) h_is3) ⟨none, none, rfl⟩ hl (fun x_1 s_ s2_ h e he => ?_) (fun e he => ?_)))
  · obtain ⟨o13, o14, rfl⟩ := he
    obtain ⟨hand_, found_, chain_⟩ := s_
    refine ⟨rfl, _, rfl, ?_⟩
    show wS _ [ac ((q5 (ls PyData.int) PyData.int PyData.int PyData.int PyData.int) hand_), im (PyData.int size), ac (found_.map PyData.int), im ((ls PyData.int) chain_), im (PyData.int x_1), imo o14] _
    replace h : f_w_plan_L1 size x_1 hand_ found_ chain_ = some s2_ := h
    unfold f_w_plan_L1 at h
    obtain ⟨t15, h_t15, h⟩ := bnd h
    obtain ⟨k_16, h_k_16, h⟩ := bnd h
    refine w_seq ((t_set (f := PyData.int) (v := t15.1) (w := k_16) h_k_16 (mI (c := (q5 (ls PyData.int) PyData.int PyData.int PyData.int PyData.int) hand_) rfl (aI (binX (cbX (dX (vI rfl) d0 rfl) (o_lenL (f := PyData.int) (l := chain_))) cI rfl rfl e_add) a0) rfl rfl (k__law_take h_t15)) rfl ?_))
    show wS _ [ac ((q5 (ls PyData.int) PyData.int PyData.int PyData.int PyData.int) t15.2), im (PyData.int size), ac (found_.map PyData.int), im ((ls PyData.int) chain_), im (PyData.int x_1), im (PyData.int k_16)] _
    obtain ⟨t17, h_t17, h⟩ := bnd h
    obtain ⟨t18, h_t18, h⟩ := bnd h
    obtain ⟨found19, h_found19, h⟩ := bnd h
    refine w_seq ((t_app (f := PyData.int) (l := found_) (a := t18) h_found19 ⟨_, (binX (binX (vI rfl) (lstX (aI cI a0) (Nat.le_of_ble_eq_true rfl)) rfl rfl (o_catL (f := PyData.int) (l := chain_) (m := [(0 : Int)]) h_t17)) (vI rfl) rfl rfl (o_ixL (f := PyData.int) (l := t17) h_t18)), rfl⟩ rfl rfl ?_))
    show wS _ [ac ((q5 (ls PyData.int) PyData.int PyData.int PyData.int PyData.int) t15.2), im (PyData.int size), ac (found19.map PyData.int), im ((ls PyData.int) chain_), im (PyData.int x_1), im (PyData.int k_16)] _
    obtain ⟨chain21, h_t20, h⟩ := bnd h
    refine w_seq ((t_setL (f := PyData.int) (v := chain21) (w := chain21) rfl (binX (lstX (aI (vI rfl) a0) (Nat.le_of_ble_eq_true rfl)) (cutLX (f := PyData.int) (l := chain_) (vI rfl) (oA (vI rfl)) oN rfl) rfl rfl (o_catL (f := PyData.int) (l := [x_1]) (m := (cutD chain_ (some k_16) none)) h_t20)) rfl ?_))
    show wS _ [ac ((q5 (ls PyData.int) PyData.int PyData.int PyData.int PyData.int) t15.2), im (PyData.int size), ac (found19.map PyData.int), im ((ls PyData.int) chain21), im (PyData.int x_1), im (PyData.int k_16)] _
    refine w_nx ?_
    cases h
    exact ⟨some (PyData.int x_1), some (PyData.int k_16), rfl⟩
  · obtain ⟨o23, o24, rfl⟩ := he
    show wS _ [ac ((q5 (ls PyData.int) PyData.int PyData.int PyData.int PyData.int) s22.1), im (PyData.int size), ac (s22.2.1.map PyData.int), im ((ls PyData.int) s22.2.2), imo o23, imo o24] _
    cases h
    refine w_seq ((w_ret (cbX (dX (vB rfl) d0 rfl) rfl) ?_))
    exact ⟨rfl, rfl⟩
theorem k__law_sign {hand : ((List Int) × Int × Int × Int × Int)} {size : Int} {r : (Str × ((List Int) × Int × Int × Int × Int))} (h : f_w_sign hand size = some r) : F__law_sign ((q5 (ls PyData.int) PyData.int PyData.int PyData.int PyData.int) hand) [PyData.int size] = some (.im (PyData.str r.1), (q5 (ls PyData.int) PyData.int PyData.int PyData.int PyData.int) r.2) := by
  unfold f_w_sign at h
  refine t_fnMS (enc := PyData.str) (es := (q5 (ls PyData.int) PyData.int PyData.int PyData.int PyData.int)) rfl ?_
  show wS _ [ac ((q5 (ls PyData.int) PyData.int PyData.int PyData.int PyData.int) hand), im (PyData.int size), none, none, none] _
  obtain ⟨text1, h_text1, h⟩ := bnd h
  refine w_seq ((t_set (f := PyData.str) (v := ("" : Str)) (w := text1) h_text1 cI rfl ?_))
  show wS _ [ac ((q5 (ls PyData.int) PyData.int PyData.int PyData.int PyData.int) hand), im (PyData.int size), im (PyData.str text1), none, none] _
  obtain ⟨waiting2, h_waiting2, h⟩ := bnd h
  refine w_seq ((t_set (f := PyData.int) (v := (1 : Int)) (w := waiting2) h_waiting2 cI rfl ?_))
  show wS _ [ac ((q5 (ls PyData.int) PyData.int PyData.int PyData.int PyData.int) hand), im (PyData.int size), im (PyData.str text1), im (PyData.int waiting2), none] _
  obtain ⟨is3, h_is3, h⟩ := bnd h
  obtain ⟨s28, hl, h⟩ := bnd h
  refine w_seq ((t_forS PyData.int is3 (fun x_1 (s_ : ((List Int) × Int × Int × Int × Int) × Int × Str × Int) => f_w_sign_L1 x_1 s_.1 s_.2.1 s_.2.2.1 s_.2.2.2) (fun (s_ : ((List Int) × Int × Int × Int × Int) × Int × Str × Int) e => ∃ (o16 : Option PyData), e = [ac ((q5 (ls PyData.int) PyData.int PyData.int PyData.int PyData.int) s_.1), im (PyData.int s_.2.1), im (PyData.str s_.2.2.1), im (PyData.int s_.2.2.2), imo o16]) (rng1I (binX (binX cI (vI rfl) rfl rfl (e_mul (.inl (by decide)))) cI rfl rfl e_add) h_is3) ⟨none, rfl⟩ hl (fun x_1 s_ s2_ h e he => ?_) (fun e he => ?_)))
  · obtain ⟨o16, rfl⟩ := he
    obtain ⟨hand_, size_, text_, waiting_⟩ := s_
    refine ⟨rfl, _, rfl, ?_⟩
    show wS _ [ac ((q5 (ls PyData.int) PyData.int PyData.int PyData.int PyData.int) hand_), im (PyData.int size_), im (PyData.str text_), im (PyData.int waiting_), im (PyData.int x_1)] _
    replace h : f_w_sign_L1 x_1 hand_ size_ text_ waiting_ = some s2_ := h
    unfold f_w_sign_L1 at h
    obtain ⟨t19, h_t19, h⟩ := bnd h
    refine (w_if (b := t19.1) (tandM (fun s_ => [ac ((q5 (ls PyData.int) PyData.int PyData.int PyData.int PyData.int) s_), im (PyData.int size_), im (PyData.str text_), im (PyData.int waiting_), im (PyData.int x_1)]) (p := (decide ((0 : Int) < size_))) (bang (binX (vI rfl) cI rfl rfl e_qgt)) rfl h_t19 (fun _ _ _ hq => (by obtain ⟨t18, h_t18, hq⟩ := bnd hq; obtain ⟨hq, hq2⟩ := Prod.mk.inj (Option.some.inj hq); subst hq; subst hq2; exact (torM (fun s_ => [ac ((q5 (ls PyData.int) PyData.int PyData.int PyData.int PyData.int) s_), im (PyData.int size_), im (PyData.str text_), im (PyData.int waiting_), im (PyData.int x_1)]) (p := (decide (waiting_ = (1 : Int)))) (bang (binX (vI rfl) cI rfl rfl e_eq)) rfl h_t18 (fun _ _ _ hq => (by obtain ⟨t17, h_t17, hq⟩ := bnd hq; obtain ⟨hq, hq2⟩ := Prod.mk.inj (Option.some.inj hq); subst hq; subst hq2; exact (bang (binX (mI (c := (q5 (ls PyData.int) PyData.int PyData.int PyData.int PyData.int) hand_) rfl (aI cI a0) rfl rfl (k__law_take h_t17)) cI rfl rfl e_eq)))))))) (fun hc20 => ?_) (fun hc20 => ?_))
    · rw [if1 hc20] at h
      obtain ⟨text22, h_t21, h⟩ := bnd h
      refine w_seq ((t_set (f := PyData.str) (v := text22) (w := text22) rfl (binX (vI rfl) cI rfl rfl (o_adS h_t21)) rfl ?_))
      show wS _ [ac ((q5 (ls PyData.int) PyData.int PyData.int PyData.int PyData.int) t19.2), im (PyData.int size_), im (PyData.str text22), im (PyData.int waiting_), im (PyData.int x_1)] _
      obtain ⟨size23, h_size23, h⟩ := bnd h
      refine w_seq ((t_set (f := PyData.int) (v := (size_ - (1 : Int))) (w := size23) h_size23 (binX (vI rfl) cI rfl rfl e_sub) rfl ?_))
      show wS _ [ac ((q5 (ls PyData.int) PyData.int PyData.int PyData.int PyData.int) t19.2), im (PyData.int size23), im (PyData.str text22), im (PyData.int waiting_), im (PyData.int x_1)] _
      obtain ⟨waiting24, h_waiting24, h⟩ := bnd h
      refine w_seq ((t_set (f := PyData.int) (v := (waiting_ + (1 : Int))) (w := waiting24) h_waiting24 (binX (vI rfl) cI rfl rfl e_add) rfl ?_))
      show wS _ [ac ((q5 (ls PyData.int) PyData.int PyData.int PyData.int PyData.int) t19.2), im (PyData.int size23), im (PyData.str text22), im (PyData.int waiting24), im (PyData.int x_1)] _
      refine w_nx ?_
      cases h
      exact ⟨some (PyData.int x_1), rfl⟩
    · rw [if0 hc20] at h
      obtain ⟨text26, h_t25, h⟩ := bnd h
      refine w_seq ((t_set (f := PyData.str) (v := text26) (w := text26) rfl (binX (vI rfl) cI rfl rfl (o_adS h_t25)) rfl ?_))
      show wS _ [ac ((q5 (ls PyData.int) PyData.int PyData.int PyData.int PyData.int) t19.2), im (PyData.int size_), im (PyData.str text26), im (PyData.int waiting_), im (PyData.int x_1)] _
      obtain ⟨waiting27, h_waiting27, h⟩ := bnd h
      refine w_seq ((t_set (f := PyData.int) (v := (waiting_ - (1 : Int))) (w := waiting27) h_waiting27 (binX (vI rfl) cI rfl rfl e_sub) rfl ?_))
      show wS _ [ac ((q5 (ls PyData.int) PyData.int PyData.int PyData.int PyData.int) t19.2), im (PyData.int size_), im (PyData.str text26), im (PyData.int waiting27), im (PyData.int x_1)] _
      refine w_nx ?_
      cases h
      exact ⟨some (PyData.int x_1), rfl⟩
  · obtain ⟨o29, rfl⟩ := he
    show wS _ [ac ((q5 (ls PyData.int) PyData.int PyData.int PyData.int PyData.int) s28.1), im (PyData.int s28.2.1), im (PyData.str s28.2.2.1), im (PyData.int s28.2.2.2), imo o29] _
    cases h
    refine w_seq ((w_ret (vI rfl) ?_))
    exact ⟨rfl, rfl⟩
theorem k__law_spoilt {hand : ((List Int) × Int × Int × Int × Int)} {text : Str} {r : (Str × ((List Int) × Int × Int × Int × Int))} (h : f_w_spoilt hand text = some r) : F__law_spoilt ((q5 (ls PyData.int) PyData.int PyData.int PyData.int PyData.int) hand) [PyData.str text] = some (.im (PyData.str r.1), (q5 (ls PyData.int) PyData.int PyData.int PyData.int PyData.int) r.2) := by
  unfold f_w_spoilt at h
  refine t_fnMS (enc := PyData.str) (es := (q5 (ls PyData.int) PyData.int PyData.int PyData.int PyData.int)) rfl ?_
  show wS _ [ac ((q5 (ls PyData.int) PyData.int PyData.int PyData.int PyData.int) hand), im (PyData.str text), none, none] _
  obtain ⟨t1, h_t1, h⟩ := bnd h
  obtain ⟨t2, h_t2, h⟩ := bnd h
  obtain ⟨p_3, h_p_3, h⟩ := bnd h
  refine w_seq ((t_set (f := PyData.int) (v := t2.1) (w := p_3) h_p_3 (mI (c := (q5 (ls PyData.int) PyData.int PyData.int PyData.int PyData.int) hand) rfl (aI (cbX (dX (vI rfl) d0 rfl) (o_lenS h_t1)) a0) rfl rfl (k__law_take h_t2)) rfl ?_))
  show wS _ [ac ((q5 (ls PyData.int) PyData.int PyData.int PyData.int PyData.int) t2.2), im (PyData.str text), im (PyData.int p_3), none] _
  obtain ⟨t4, h_t4, h⟩ := bnd h
  obtain ⟨way5, h_way5, h⟩ := bnd h
  refine w_seq ((t_set (f := PyData.int) (v := t4.1) (w := way5) h_way5 (mI (c := (q5 (ls PyData.int) PyData.int PyData.int PyData.int PyData.int) t2.2) rfl (aI cI a0) rfl rfl (k__law_take h_t4)) rfl ?_))
  show wS _ [ac ((q5 (ls PyData.int) PyData.int PyData.int PyData.int PyData.int) t4.2), im (PyData.str text), im (PyData.int p_3), im (PyData.int way5)] _
  refine w_seq ((w_if (b := (decide (way5 = (0 : Int)))) (bang (binX (vI rfl) cI rfl rfl e_eq)) (fun hc6 => ?_) (fun hc6 => ?_)))
  · rw [if1 hc6] at h
    obtain ⟨t7, h_t7, h⟩ := bnd h
    obtain ⟨t8, h_t8, h⟩ := bnd h
    obtain ⟨t9, h_t9, h⟩ := bnd h
    cases h
    refine (w_ret (binX (slSX (vI rfl) oN (oA (vI rfl)) h_t7) (slSX (vI rfl) (oA (binX (vI rfl) cI rfl rfl e_add)) oN h_t8) rfl rfl (o_adS h_t9)) ?_)
    exact ⟨rfl, rfl⟩
  · rw [if0 hc6] at h
    refine w_nx ?_
    show wS _ [ac ((q5 (ls PyData.int) PyData.int PyData.int PyData.int PyData.int) t4.2), im (PyData.str text), im (PyData.int p_3), im (PyData.int way5)] _
    refine w_seq ((w_if (b := (decide (way5 = (1 : Int)))) (bang (binX (vI rfl) cI rfl rfl e_eq)) (fun hc10 => ?_) (fun hc10 => ?_)))
    · rw [if1 hc10] at h
      obtain ⟨t11, h_t11, h⟩ := bnd h
      obtain ⟨t12, h_t12, h⟩ := bnd h
      obtain ⟨t13, h_t13, h⟩ := bnd h
      obtain ⟨t14, h_t14, h⟩ := bnd h
      cases h
      refine (w_ret (binX (binX (slSX (vI rfl) oN (oA (vI rfl)) h_t11) cI rfl rfl (o_adS h_t12)) (slSX (vI rfl) (oA (vI rfl)) oN h_t13) rfl rfl (o_adS h_t14)) ?_)
      exact ⟨rfl, rfl⟩
    · rw [if0 hc10] at h
      refine w_nx ?_
      show wS _ [ac ((q5 (ls PyData.int) PyData.int PyData.int PyData.int PyData.int) t4.2), im (PyData.str text), im (PyData.int p_3), im (PyData.int way5)] _
      refine w_seq ((w_if (b := (decide (way5 = (2 : Int)))) (bang (binX (vI rfl) cI rfl rfl e_eq)) (fun hc15 => ?_) (fun hc15 => ?_)))
      · rw [if1 hc15] at h
        obtain ⟨t16, h_t16, h⟩ := bnd h
        cases h
        refine (w_ret (binX (vI rfl) cI rfl rfl (o_adS h_t16)) ?_)
        exact ⟨rfl, rfl⟩
      · rw [if0 hc15] at h
        refine w_nx ?_
        show wS _ [ac ((q5 (ls PyData.int) PyData.int PyData.int PyData.int PyData.int) t4.2), im (PyData.str text), im (PyData.int p_3), im (PyData.int way5)] _
        refine w_seq ((w_if (b := (decide (way5 = (3 : Int)))) (bang (binX (vI rfl) cI rfl rfl e_eq)) (fun hc17 => ?_) (fun hc17 => ?_)))
        · rw [if1 hc17] at h
          obtain ⟨t18, h_t18, h⟩ := bnd h
          obtain ⟨t19, h_t19, h⟩ := bnd h
          obtain ⟨t20, h_t20, h⟩ := bnd h
          obtain ⟨t21, h_t21, h⟩ := bnd h
          obtain ⟨t22, h_t22, h⟩ := bnd h
          obtain ⟨t23, h_t23, h⟩ := bnd h
          obtain ⟨t24, h_t24, h⟩ := bnd h
          cases h
          refine (w_ret (binX (binX (slSX (vI rfl) oN (oA (vI rfl)) h_t18) (ifX (f := PyData.str) (bang (binX (binX (vI rfl) (vI rfl) rfl rfl (o_ixS h_t19)) cI rfl rfl (bD_ok h_t20))) h_t21 (fun _ _ hq => (by have hq := Option.some.inj hq; subst hq; exact cI)) (fun _ _ hq => (by have hq := Option.some.inj hq; subst hq; exact cI))) rfl rfl (o_adS h_t22)) (slSX (vI rfl) (oA (binX (vI rfl) cI rfl rfl e_add)) oN h_t23) rfl rfl (o_adS h_t24)) ?_)
          exact ⟨rfl, rfl⟩
        · rw [if0 hc17] at h
          refine w_nx ?_
          show wS _ [ac ((q5 (ls PyData.int) PyData.int PyData.int PyData.int PyData.int) t4.2), im (PyData.str text), im (PyData.int p_3), im (PyData.int way5)] _
          refine w_seq ((w_if (b := (decide (way5 = (4 : Int)))) (bang (binX (vI rfl) cI rfl rfl e_eq)) (fun hc25 => ?_) (fun hc25 => ?_)))
          · rw [if1 hc25] at h
            obtain ⟨t26, h_t26, h⟩ := bnd h
            cases h
            refine (w_ret (rvSX (vI rfl) h_t26) ?_)
            exact ⟨rfl, rfl⟩
          · rw [if0 hc25] at h
            refine w_nx ?_
            show wS _ [ac ((q5 (ls PyData.int) PyData.int PyData.int PyData.int PyData.int) t4.2), im (PyData.str text), im (PyData.int p_3), im (PyData.int way5)] _
            refine w_seq ((w_if (b := (decide (way5 = (5 : Int)))) (bang (binX (vI rfl) cI rfl rfl e_eq)) (fun hc27 => ?_) (fun hc27 => ?_)))
            · rw [if1 hc27] at h
              obtain ⟨t28, h_t28, h⟩ := bnd h
              obtain ⟨t29, h_t29, h⟩ := bnd h
              obtain ⟨t30, h_t30, h⟩ := bnd h
              obtain ⟨t31, h_t31, h⟩ := bnd h
              cases h
              refine (w_ret (binX (binX (slSX (vI rfl) oN (oA (vI rfl)) h_t28) cI rfl rfl (o_adS h_t29)) (slSX (vI rfl) (oA (vI rfl)) oN h_t30) rfl rfl (o_adS h_t31)) ?_)
              exact ⟨rfl, rfl⟩
            · rw [if0 hc27] at h
              refine w_nx ?_
              show wS _ [ac ((q5 (ls PyData.int) PyData.int PyData.int PyData.int PyData.int) t4.2), im (PyData.str text), im (PyData.int p_3), im (PyData.int way5)] _
              refine w_seq ((w_if (b := (decide (way5 = (6 : Int)))) (bang (binX (vI rfl) cI rfl rfl e_eq)) (fun hc32 => ?_) (fun hc32 => ?_)))
              · rw [if1 hc32] at h
                obtain ⟨t33, h_t33, h⟩ := bnd h
                obtain ⟨t34, h_t34, h⟩ := bnd h
                obtain ⟨t35, h_t35, h⟩ := bnd h
                obtain ⟨t36, h_t36, h⟩ := bnd h
                cases h
                refine (w_ret (binX (binX (slSX (vI rfl) oN (oA (vI rfl)) h_t33) cI rfl rfl (o_adS h_t34)) (slSX (vI rfl) (oA (vI rfl)) oN h_t35) rfl rfl (o_adS h_t36)) ?_)
                exact ⟨rfl, rfl⟩
              · rw [if0 hc32] at h
                refine w_nx ?_
                show wS _ [ac ((q5 (ls PyData.int) PyData.int PyData.int PyData.int PyData.int) t4.2), im (PyData.str text), im (PyData.int p_3), im (PyData.int way5)] _
                obtain ⟨t37, h_t37, h⟩ := bnd h
                obtain ⟨t38, h_t38, h⟩ := bnd h
                obtain ⟨t39, h_t39, h⟩ := bnd h
                cases h
                refine w_seq ((w_ret (binX (slSX (vI rfl) (oA (vI rfl)) oN h_t37) (slSX (vI rfl) oN (oA (vI rfl)) h_t38) rfl rfl (o_adS h_t39)) ?_))
                exact ⟨rfl, rfl⟩
theorem k_is_nested {thing : PyData} {r : Bool} (h : f_is_nested thing = some r) : F_is_nested [idD thing] = some (.im (PyData.bool r)) := by
  unfold f_is_nested at h
  refine t_fnI (enc := PyData.bool) rfl ?_
  show wS _ [im (idD thing), none, none, none] _
  obtain ⟨t1, h_t1, h⟩ := bnd h
  refine w_seq ((w_if (b := (!t1)) (tnot (bang (isX (vI rfl) rfl h_t1))) (fun hc2 => ?_) (fun hc2 => ?_)))
  · rw [if1 hc2] at h
    cases h
    refine (w_ret cI ?_)
    exact rfl
  · rw [if0 hc2] at h
    refine w_nx ?_
    show wS _ [im (idD thing), none, none, none] _
    obtain ⟨chain3, h_chain3, h⟩ := bnd h
    refine w_seq ((t_setA (f := PyData.int) (v := [(0 : Int)]) (w := chain3) h_chain3 (lstX (aI cI a0) (Nat.le_of_ble_eq_true rfl)) rfl ?_))
    show wS _ [im (idD thing), ac (chain3.map PyData.int), none, none] _
    obtain ⟨version4, h_version4, h⟩ := bnd h
    refine w_seq ((t_set (f := PyData.int) (v := (0 : Int)) (w := version4) h_version4 cI rfl ?_))
    show wS _ [im (idD thing), ac (chain3.map PyData.int), im (PyData.int version4), none] _
    obtain ⟨is5, h_is5, h⟩ := bnd h
    obtain ⟨l_, hl, h⟩ := bnd h
    refine w_seq ((t_forG idD is5 (fun x_1 (s_ : (List Int) × Int) => f_is_nested_L1 thing x_1 s_.1 s_.2) (fun (s_ : (List Int) × Int) e => ∃ (o22 : Option PyData), e = [im (idD thing), ac (s_.1.map PyData.int), im (PyData.int s_.2), imo o22]) (rtI PyData.bool) (wkX (vI rfl) h_is5) ⟨none, rfl⟩ hl (fun x_1 s_ l2_ h e he => ?_) (fun s35 hs e he => ?_) (fun r_ hs r2_ e hr => ?_)))
    · obtain ⟨o22, rfl⟩ := he
      obtain ⟨chain_, version_⟩ := s_
      refine ⟨rfl, _, rfl, ?_⟩
      show wS _ [im (idD thing), ac (chain_.map PyData.int), im (PyData.int version_), im (idD x_1)] _
      replace h : f_is_nested_L1 thing x_1 chain_ version_ = some l2_ := h
      unfold f_is_nested_L1 at h
      obtain ⟨version23, h_version23, h⟩ := bnd h
      refine w_seq ((t_aug (a := version_) (b := (1 : Int)) h_version23 rfl cI rfl ?_))
      show wS _ [im (idD thing), ac (chain_.map PyData.int), im (PyData.int version23), im (idD x_1)] _
      obtain ⟨t24, h_t24, h⟩ := bnd h
      refine w_seq ((w_if (b := (!t24)) (tnot (bang (callI (aI (vI rfl) a0) rfl (k_is_number h_t24)))) (fun hc25 => ?_) (fun hc25 => ?_)))
      · rw [if1 hc25] at h
        cases h
        refine (w_ret cI ?_)
        exact rfl
      · rw [if0 hc25] at h
        refine w_nx ?_
        show wS _ [im (idD thing), ac (chain_.map PyData.int), im (PyData.int version23), im (idD x_1)] _
        obtain ⟨chain30, hl, h⟩ := bnd h
        refine w_seq ((t_whS (fun (chain_ : (List Int)) => f_is_nested_L2c thing version23 x_1 chain_) (fun (chain_ : (List Int)) => f_is_nested_L2 thing version23 x_1 chain_) (fun (chain_ : (List Int)) e => e = [im (idD thing), ac (chain_.map PyData.int), im (PyData.int version23), im (idD x_1)]) (N := 300) rfl rfl hl (fun chain_ b_ h e he => ?_) (fun chain_ s2_ h e he => ?_) (fun e he => ?_)))
        · subst he
          replace h : f_is_nested_L2c thing version23 x_1 chain_ = some b_ := h
          unfold f_is_nested_L2c at h
          obtain ⟨t27, h_t27, h⟩ := bnd h
          obtain ⟨t28, h_t28, h⟩ := bnd h
          cases h
          exact (bang (binX (binX (vB rfl) (negI cI) rfl rfl (o_ixL (f := PyData.int) (l := chain_) h_t27)) (vI rfl) rfl rfl (bD_ok h_t28)))
        · subst he
          show wS _ [im (idD thing), ac (chain_.map PyData.int), im (PyData.int version23), im (idD x_1)] _
          replace h : f_is_nested_L2 thing version23 x_1 chain_ = some s2_ := h
          unfold f_is_nested_L2 at h
          obtain ⟨pw26, h_pw26, h⟩ := bnd h
          refine (w_drop (popX (f := PyData.int) (l := chain_) h_pw26 rfl) ?_)
          cases h
          exact rfl
        · subst he
          show wS _ [im (idD thing), ac (chain30.map PyData.int), im (PyData.int version23), im (idD x_1)] _
          obtain ⟨t31, h_t31, h⟩ := bnd h
          obtain ⟨t32, h_t32, h⟩ := bnd h
          refine w_seq ((w_if (b := t32) (bang (binX (binX (vB rfl) (negI cI) rfl rfl (o_ixL (f := PyData.int) (l := chain30) h_t31)) (vI rfl) rfl rfl (bD_ok h_t32))) (fun hc33 => ?_) (fun hc33 => ?_)))
          · rw [if1 hc33] at h
            cases h
            refine (w_ret cI ?_)
            exact rfl
          · rw [if0 hc33] at h
            refine w_nx ?_
            show wS _ [im (idD thing), ac (chain30.map PyData.int), im (PyData.int version23), im (idD x_1)] _
            obtain ⟨chain34, h_chain34, h⟩ := bnd h
            refine w_seq ((t_app (f := PyData.int) (l := chain30) (a := version23) h_chain34 ⟨_, (vI rfl), rfl⟩ rfl rfl ?_))
            show wS _ [im (idD thing), ac (chain34.map PyData.int), im (PyData.int version23), im (idD x_1)] _
            refine w_nx ?_
            cases h
            exact ⟨some (idD x_1), rfl⟩
    · subst hs
      replace h : _ = some r := h
      dsimp only at h
      obtain ⟨o36, rfl⟩ := he
      show wS _ [im (idD thing), ac (s35.1.map PyData.int), im (PyData.int s35.2), imo o36] _
      cases h
      refine w_seq ((w_ret cI ?_))
      exact rfl
    · subst hs
      cases h
      exact hr
theorem k__need_track {track : Str} {r : Unit} (h : f_need_track track = some r) : F__need_track [PyData.str track] = some (.im (nn r)) := by
  unfold f_need_track at h
  refine t_fnI (enc := nn) rfl ?_
  show wS _ [im (PyData.str track)] _
  obtain ⟨t1, h_t1, h⟩ := bnd h
  refine (w_if (b := (!t1)) (tnot (bang (callI (aI (vI rfl) a0) rfl (k_is_track h_t1)))) (fun hc2 => ?_) (fun hc2 => ?_))
  · rw [if1 hc2] at h
    cases h
  · rw [if0 hc2] at h
    refine w_nx ?_
    cases h
    exact rfl
theorem k_need_plan {word : Str} {thing : (List Int)} {r : Unit} (h : f_need_plan word thing = some r) : F_need_plan [PyData.str word, (tp PyData.int) thing] = some (.im (nn r)) := by
  unfold f_need_plan at h
  refine t_fnI (enc := nn) rfl ?_
  show wS _ [im (PyData.str word), im ((tp PyData.int) thing)] _
  obtain ⟨t1, h_t1, h⟩ := bnd h
  refine (w_if (b := (!t1)) (tnot (bang (callI (aI (vI rfl) a0) rfl (k_is_nested h_t1)))) (fun hc2 => ?_) (fun hc2 => ?_))
  · rw [if1 hc2] at h
    cases h
  · rw [if0 hc2] at h
    refine w_nx ?_
    cases h
    exact rfl
theorem k_is_line_plan {thing : PyData} {r : Bool} (h : f_is_line_plan thing = some r) : F_is_line_plan [idD thing] = some (.im (PyData.bool r)) := by
  unfold f_is_line_plan at h
  refine t_fnI (enc := PyData.bool) rfl ?_
  show wS _ [im (idD thing)] _
  obtain ⟨t1, h_t1, h⟩ := bnd h
  cases h
  refine (w_ret (callI (aI (vI rfl) a0) rfl (k_is_nested h_t1)) ?_)
  exact rfl
theorem k_bases_from {track : Str} {r : (List Int)} (h : f_bases_from track = some r) : F_bases_from [PyData.str track] = some (.im ((tp PyData.int) r)) := by
  unfold f_bases_from at h
  refine t_fnI (enc := (tp PyData.int)) rfl ?_
  show wS _ [im (PyData.str track)] _
  obtain ⟨t1, h_t1, h⟩ := bnd h
  refine w_seq ((w_drop (callI (aI (vI rfl) a0) rfl (k__need_track h_t1)) ?_))
  show wS _ [im (PyData.str track)] _
  obtain ⟨t2, h_t2, h⟩ := bnd h
  cases h
  refine w_seq ((w_ret (callI (aI (vI rfl) (aI cI a0)) rfl (k__built h_t2)) ?_))
  exact rfl
theorem k_turns_of {track : Str} {r : (List (Int × Int))} (h : f_turns_of track = some r) : F_turns_of [PyData.str track] = some (.im ((tp (p2 PyData.int PyData.int)) r)) := by
  unfold f_turns_of at h
  refine t_fnI (enc := (tp (p2 PyData.int PyData.int))) rfl ?_
  show wS _ [im (PyData.str track), none, none, none, none, none] _
  obtain ⟨t1, h_t1, h⟩ := bnd h
  refine w_seq ((w_drop (callI (aI (vI rfl) a0) rfl (k__need_track h_t1)) ?_))
  show wS _ [im (PyData.str track), none, none, none, none, none] _
  obtain ⟨turns2, h_turns2, h⟩ := bnd h
  refine w_seq ((t_setA (f := (p2 PyData.int PyData.int)) (v := []) (w := turns2) h_turns2 (lstX a0 (Nat.le_of_ble_eq_true rfl)) rfl ?_))
  show wS _ [im (PyData.str track), ac (turns2.map (p2 PyData.int PyData.int)), none, none, none, none] _
  obtain ⟨waiting3, h_waiting3, h⟩ := bnd h
  refine w_seq ((t_setA (f := (p2 PyData.int PyData.int)) (v := [((0 : Int), (0 : Int))]) (w := waiting3) h_waiting3 (lstX (aI (tupI (aI cI (aI cI a0)) (Nat.le_of_ble_eq_true rfl)) a0) (Nat.le_of_ble_eq_true rfl)) rfl ?_))
  show wS _ [im (PyData.str track), ac (turns2.map (p2 PyData.int PyData.int)), ac (waiting3.map (p2 PyData.int PyData.int)), none, none, none] _
  obtain ⟨s22, hl, h⟩ := bnd h
  refine w_seq ((t_forS PyData.str (DL.signs track) (fun x_1 (s_ : (List (Int × Int)) × (List (Int × Int))) => f_turns_of_L1 track x_1 s_.1 s_.2) (fun (s_ : (List (Int × Int)) × (List (Int × Int))) e => ∃ (o13 : Option PyData) (o14 : Option PyData) (o15 : Option PyData), e = [im (PyData.str track), ac (s_.1.map (p2 PyData.int PyData.int)), ac (s_.2.map (p2 PyData.int PyData.int)), imo o13, imo o14, imo o15]) (txtI (vI rfl)) ⟨none, none, none, rfl⟩ hl (fun x_1 s_ s2_ h e he => ?_) (fun e he => ?_)))
  · obtain ⟨o13, o14, o15, rfl⟩ := he
    obtain ⟨turns_, waiting_⟩ := s_
    refine ⟨rfl, _, rfl, ?_⟩
    show wS _ [im (PyData.str track), ac (turns_.map (p2 PyData.int PyData.int)), ac (waiting_.map (p2 PyData.int PyData.int)), im (PyData.str x_1), imo o14, imo o15] _
    replace h : f_turns_of_L1 track x_1 turns_ waiting_ = some s2_ := h
    unfold f_turns_of_L1 at h
    obtain ⟨pw16, h_pw16, h⟩ := bnd h
    refine w_seq ((t_asg (popX (f := (p2 PyData.int PyData.int)) (l := waiting_) h_pw16 rfl) rfl rfl rfl ?_))
    show wS _ [im (PyData.str track), ac (turns_.map (p2 PyData.int PyData.int)), ac (pw16.2.map (p2 PyData.int PyData.int)), im (PyData.str x_1), im (PyData.int pw16.1.1), im (PyData.int pw16.1.2)] _
    obtain ⟨t17, h_t17, h⟩ := bnd h
    refine w_seq ((w_if (b := t17) (bang (binX (vI rfl) cI rfl rfl (bD_ok h_t17))) (fun hc18 => ?_) (fun hc18 => ?_)))
    · rw [if1 hc18] at h
      obtain ⟨turns19, h_turns19, h⟩ := bnd h
      refine (t_app (f := (p2 PyData.int PyData.int)) (l := turns_) (a := (pw16.1.1, pw16.1.2)) h_turns19 ⟨_, (tupI (aI (vI rfl) (aI (vI rfl) a0)) (Nat.le_of_ble_eq_true rfl)), rfl⟩ rfl rfl ?_)
      show wS _ [im (PyData.str track), ac (turns19.map (p2 PyData.int PyData.int)), ac (pw16.2.map (p2 PyData.int PyData.int)), im (PyData.str x_1), im (PyData.int pw16.1.1), im (PyData.int pw16.1.2)] _
      refine w_nx ?_
      cases h
      exact ⟨some (PyData.str x_1), some (PyData.int pw16.1.1), some (PyData.int pw16.1.2), rfl⟩
    · rw [if0 hc18] at h
      obtain ⟨waiting20, h_waiting20, h⟩ := bnd h
      refine w_seq ((t_app (f := (p2 PyData.int PyData.int)) (l := pw16.2) (a := (pw16.1.1, (pw16.1.2 + (1 : Int)))) h_waiting20 ⟨_, (tupI (aI (vI rfl) (aI (binX (vI rfl) cI rfl rfl e_add) a0)) (Nat.le_of_ble_eq_true rfl)), rfl⟩ rfl rfl ?_))
      show wS _ [im (PyData.str track), ac (turns_.map (p2 PyData.int PyData.int)), ac (waiting20.map (p2 PyData.int PyData.int)), im (PyData.str x_1), im (PyData.int pw16.1.1), im (PyData.int pw16.1.2)] _
      obtain ⟨waiting21, h_waiting21, h⟩ := bnd h
      refine w_seq ((t_app (f := (p2 PyData.int PyData.int)) (l := waiting20) (a := ((pw16.1.1 + (1 : Int)), pw16.1.2)) h_waiting21 ⟨_, (tupI (aI (binX (vI rfl) cI rfl rfl e_add) (aI (vI rfl) a0)) (Nat.le_of_ble_eq_true rfl)), rfl⟩ rfl rfl ?_))
      show wS _ [im (PyData.str track), ac (turns_.map (p2 PyData.int PyData.int)), ac (waiting21.map (p2 PyData.int PyData.int)), im (PyData.str x_1), im (PyData.int pw16.1.1), im (PyData.int pw16.1.2)] _
      refine w_nx ?_
      show wS _ [im (PyData.str track), ac (turns_.map (p2 PyData.int PyData.int)), ac (waiting21.map (p2 PyData.int PyData.int)), im (PyData.str x_1), im (PyData.int pw16.1.1), im (PyData.int pw16.1.2)] _
      refine w_nx ?_
      cases h
      exact ⟨some (PyData.str x_1), some (PyData.int pw16.1.1), some (PyData.int pw16.1.2), rfl⟩
  · obtain ⟨o23, o24, o25, rfl⟩ := he
    show wS _ [im (PyData.str track), ac (s22.1.map (p2 PyData.int PyData.int)), ac (s22.2.map (p2 PyData.int PyData.int)), imo o23, imo o24, imo o25] _
    cases h
    refine w_seq ((w_ret (cbX (dX (vB rfl) d0 rfl) rfl) ?_))
    exact rfl
theorem k_track_of {bases : (List Int)} {r : Str} (h : f_track_of bases = some r) : F_track_of [(tp PyData.int) bases] = some (.im (PyData.str r)) := by
  unfold f_track_of at h
  refine t_fnI (enc := PyData.str) rfl ?_
  show wS _ [im ((tp PyData.int) bases), none, none, none, none, none] _
  obtain ⟨t1, h_t1, h⟩ := bnd h
  refine w_seq ((w_drop (callI (aI cI (aI (vI rfl) a0)) rfl (k_need_plan h_t1)) ?_))
  show wS _ [im ((tp PyData.int) bases), none, none, none, none, none] _
  obtain ⟨signs2, h_signs2, h⟩ := bnd h
  refine w_seq ((t_setA (f := PyData.str) (v := []) (w := signs2) h_signs2 (lstX a0 (Nat.le_of_ble_eq_true rfl)) rfl ?_))
  show wS _ [im ((tp PyData.int) bases), ac (signs2.map PyData.str), none, none, none, none] _
  obtain ⟨waiting3, h_waiting3, h⟩ := bnd h
  refine w_seq ((t_setA (f := (tp PyData.int)) (v := [bases]) (w := waiting3) h_waiting3 (lstX (aI (vI rfl) a0) (Nat.le_of_ble_eq_true rfl)) rfl ?_))
  show wS _ [im ((tp PyData.int) bases), ac (signs2.map PyData.str), ac (waiting3.map (tp PyData.int)), none, none, none] _
  obtain ⟨s26, hl, h⟩ := bnd h
  refine w_seq ((t_whS (fun (s_ : (List Str) × (List (List Int))) => f_track_of_L1c s_.1 s_.2) (fun (s_ : (List Str) × (List (List Int))) => f_track_of_L1 s_.1 s_.2) (fun (s_ : (List Str) × (List (List Int))) e => ∃ (o15 : Option PyData) (o16 : Option PyData) (o17 : Option PyData), e = [im ((tp PyData.int) bases), ac (s_.1.map PyData.str), ac (s_.2.map (tp PyData.int)), imo o15, imo o16, imo o17]) (N := 300) rfl ⟨none, none, none, rfl⟩ hl (fun s_ b_ h e he => ?_) (fun s_ s2_ h e he => ?_) (fun e he => ?_)))
  · obtain ⟨o15, o16, o17, rfl⟩ := he
    obtain ⟨signs_, waiting_⟩ := s_
    replace h : f_track_of_L1c signs_ waiting_ = some b_ := h
    unfold f_track_of_L1c at h
    cases h
    exact (bang (binX (cbX (dX (vB rfl) d0 rfl) (o_lenL (f := (tp PyData.int)) (l := waiting_))) cI rfl rfl e_qgt))
  · obtain ⟨o15, o16, o17, rfl⟩ := he
    obtain ⟨signs_, waiting_⟩ := s_
    show wS _ [im ((tp PyData.int) bases), ac (signs_.map PyData.str), ac (waiting_.map (tp PyData.int)), imo o15, imo o16, imo o17] _
    replace h : f_track_of_L1 signs_ waiting_ = some s2_ := h
    unfold f_track_of_L1 at h
    obtain ⟨pw18, h_pw18, h⟩ := bnd h
    obtain ⟨plan19, h_plan19, h⟩ := bnd h
    refine w_seq ((t_set (f := (tp PyData.int)) (v := pw18.1) (w := plan19) h_plan19 (popX (f := (tp PyData.int)) (l := waiting_) h_pw18 rfl) rfl ?_))
    show wS _ [im ((tp PyData.int) bases), ac (signs_.map PyData.str), ac (pw18.2.map (tp PyData.int)), im ((tp PyData.int) plan19), imo o16, imo o17] _
    refine w_seq ((w_if (b := (decide ((plan19.length : Int) = (0 : Int)))) (bang (binX (cbX (dX (vI rfl) d0 rfl) (o_lenT (f := PyData.int) (l := plan19))) cI rfl rfl e_eq)) (fun hc20 => ?_) (fun hc20 => ?_)))
    · rw [if1 hc20] at h
      obtain ⟨signs21, h_signs21, h⟩ := bnd h
      refine w_seq ((t_app (f := PyData.str) (l := signs_) (a := ("-" : Str)) h_signs21 ⟨_, cI, rfl⟩ rfl rfl ?_))
      show wS _ [im ((tp PyData.int) bases), ac (signs21.map PyData.str), ac (pw18.2.map (tp PyData.int)), im ((tp PyData.int) plan19), imo o16, imo o17] _
      refine w_seq ((w_ct ?_))
      cases h
      exact ⟨some ((tp PyData.int) plan19), o16, o17, rfl⟩
    · rw [if0 hc20] at h
      refine w_nx ?_
      show wS _ [im ((tp PyData.int) bases), ac (signs_.map PyData.str), ac (pw18.2.map (tp PyData.int)), im ((tp PyData.int) plan19), imo o16, imo o17] _
      obtain ⟨t22, h_t22, h⟩ := bnd h
      refine w_seq ((t_asg (callI (aI (vI rfl) a0) rfl (k_ahead_and_behind h_t22)) rfl rfl rfl ?_))
      show wS _ [im ((tp PyData.int) bases), ac (signs_.map PyData.str), ac (pw18.2.map (tp PyData.int)), im ((tp PyData.int) plan19), im ((tp PyData.int) t22.1), im ((tp PyData.int) t22.2)] _
      obtain ⟨signs23, h_signs23, h⟩ := bnd h
      refine w_seq ((t_app (f := PyData.str) (l := signs_) (a := ("+" : Str)) h_signs23 ⟨_, cI, rfl⟩ rfl rfl ?_))
      show wS _ [im ((tp PyData.int) bases), ac (signs23.map PyData.str), ac (pw18.2.map (tp PyData.int)), im ((tp PyData.int) plan19), im ((tp PyData.int) t22.1), im ((tp PyData.int) t22.2)] _
      obtain ⟨waiting24, h_waiting24, h⟩ := bnd h
      refine w_seq ((t_app (f := (tp PyData.int)) (l := pw18.2) (a := t22.2) h_waiting24 ⟨_, (vI rfl), rfl⟩ rfl rfl ?_))
      show wS _ [im ((tp PyData.int) bases), ac (signs23.map PyData.str), ac (waiting24.map (tp PyData.int)), im ((tp PyData.int) plan19), im ((tp PyData.int) t22.1), im ((tp PyData.int) t22.2)] _
      obtain ⟨waiting25, h_waiting25, h⟩ := bnd h
      refine w_seq ((t_app (f := (tp PyData.int)) (l := waiting24) (a := t22.1) h_waiting25 ⟨_, (vI rfl), rfl⟩ rfl rfl ?_))
      show wS _ [im ((tp PyData.int) bases), ac (signs23.map PyData.str), ac (waiting25.map (tp PyData.int)), im ((tp PyData.int) plan19), im ((tp PyData.int) t22.1), im ((tp PyData.int) t22.2)] _
      refine w_nx ?_
      cases h
      exact ⟨some ((tp PyData.int) plan19), some ((tp PyData.int) t22.1), some ((tp PyData.int) t22.2), rfl⟩
  · obtain ⟨o27, o28, o29, rfl⟩ := he
    show wS _ [im ((tp PyData.int) bases), ac (s26.1.map PyData.str), ac (s26.2.map (tp PyData.int)), imo o27, imo o28, imo o29] _
    obtain ⟨t30, h_t30, h⟩ := bnd h
    cases h
    refine w_seq ((w_fz (w_ret (joinSX (ys := s26.1) cI (vI rfl) rfl h_t30) ?_)))
    exact rfl
theorem k__need_changes {bases : (List Int)} {r : Unit} (h : f_need_changes bases = some r) : F__need_changes [(tp PyData.int) bases] = some (.im (nn r)) := by
  unfold f_need_changes at h
  refine t_fnI (enc := nn) rfl ?_
  show wS _ [im ((tp PyData.int) bases)] _
  obtain ⟨t1, h_t1, h⟩ := bnd h
  refine w_seq ((w_drop (callI (aI cI (aI (vI rfl) a0)) rfl (k_need_plan h_t1)) ?_))
  show wS _ [im ((tp PyData.int) bases)] _
  refine w_seq ((w_if (b := (decide ((bases.length : Int) = (0 : Int)))) (bang (binX (cbX (dX (vI rfl) d0 rfl) (o_lenT (f := PyData.int) (l := bases))) cI rfl rfl e_eq)) (fun hc2 => ?_) (fun hc2 => ?_)))
  · rw [if1 hc2] at h
    cases h
  · rw [if0 hc2] at h
    refine w_nx ?_
    show wS _ [im ((tp PyData.int) bases)] _
    refine w_nx ?_
    cases h
    exact rfl
theorem k_joined_plans {one : (List Int)} {other : (List Int)} {r : (List Int)} (h : f_joined_plans one other = some r) : F_joined_plans [(tp PyData.int) one, (tp PyData.int) other] = some (.im ((tp PyData.int) r)) := by
  unfold f_joined_plans at h
  refine t_fnI (enc := (tp PyData.int)) rfl ?_
  show wS _ [im ((tp PyData.int) one), im ((tp PyData.int) other)] _
  obtain ⟨t1, h_t1, h⟩ := bnd h
  refine w_seq ((w_drop (callI (aI cI (aI (vI rfl) a0)) rfl (k_need_plan h_t1)) ?_))
  show wS _ [im ((tp PyData.int) one), im ((tp PyData.int) other)] _
  obtain ⟨t2, h_t2, h⟩ := bnd h
  refine w_seq ((w_drop (callI (aI cI (aI (vI rfl) a0)) rfl (k_need_plan h_t2)) ?_))
  show wS _ [im ((tp PyData.int) one), im ((tp PyData.int) other)] _
  obtain ⟨t3, h_t3, h⟩ := bnd h
  cases h
  refine w_seq ((w_ret (callI (aI (vI rfl) (aI (vI rfl) a0)) rfl (k_put_beside h_t3)) ?_))
  exact rfl
theorem k_line_reads {bases : (List Int)} {r : (List Int)} (h : f_line_reads bases = some r) : F_line_reads [(tp PyData.int) bases] = some (.im ((tp PyData.int) r)) := by
  unfold f_line_reads at h
  refine t_fnI (enc := (tp PyData.int)) rfl ?_
  show wS _ [im ((tp PyData.int) bases), none, none] _
  obtain ⟨t1, h_t1, h⟩ := bnd h
  refine w_seq ((w_drop (callI (aI cI (aI (vI rfl) a0)) rfl (k_need_plan h_t1)) ?_))
  show wS _ [im ((tp PyData.int) bases), none, none] _
  obtain ⟨reads2, h_reads2, h⟩ := bnd h
  refine w_seq ((t_setA (f := PyData.int) (v := [(0 : Int)]) (w := reads2) h_reads2 (lstX (aI cI a0) (Nat.le_of_ble_eq_true rfl)) rfl ?_))
  show wS _ [im ((tp PyData.int) bases), ac (reads2.map PyData.int), none] _
  obtain ⟨reads10, hl, h⟩ := bnd h
  refine w_seq ((t_forS PyData.int bases (fun x_1 (reads_ : (List Int)) => f_line_reads_L1 bases x_1 reads_) (fun (reads_ : (List Int)) e => ∃ (o6 : Option PyData), e = [im ((tp PyData.int) bases), ac (reads_.map PyData.int), imo o6]) (seqTX (f := PyData.int) (l := bases) (vI rfl)) ⟨none, rfl⟩ hl (fun x_1 reads_ s2_ h e he => ?_) (fun e he => ?_)))
  · obtain ⟨o6, rfl⟩ := he
    refine ⟨rfl, _, rfl, ?_⟩
    show wS _ [im ((tp PyData.int) bases), ac (reads_.map PyData.int), im (PyData.int x_1)] _
    replace h : f_line_reads_L1 bases x_1 reads_ = some s2_ := h
    unfold f_line_reads_L1 at h
    obtain ⟨t7, h_t7, h⟩ := bnd h
    obtain ⟨reads8, h_reads8, h⟩ := bnd h
    refine (t_app (f := PyData.int) (l := reads_) (a := (t7 + (1 : Int))) h_reads8 ⟨_, (binX (binX (vB rfl) (vI rfl) rfl rfl (o_ixL (f := PyData.int) (l := reads_) h_t7)) cI rfl rfl e_add), rfl⟩ rfl rfl ?_)
    cases h
    exact ⟨some (PyData.int x_1), rfl⟩
  · obtain ⟨o11, rfl⟩ := he
    show wS _ [im ((tp PyData.int) bases), ac (reads10.map PyData.int), imo o11] _
    cases h
    refine w_seq ((w_ret (cbX (dX (vB rfl) d0 rfl) rfl) ?_))
    exact rfl
theorem k_line_writes {bases : (List Int)} {r : (List Int)} (h : f_line_writes bases = some r) : F_line_writes [(tp PyData.int) bases] = some (.im ((tp PyData.int) r)) := by
  unfold f_line_writes at h
  refine t_fnI (enc := (tp PyData.int)) rfl ?_
  show wS _ [im ((tp PyData.int) bases), none, none, none, none, none] _
  obtain ⟨t1, h_t1, h⟩ := bnd h
  refine w_seq ((w_drop (callI (aI cI (aI (vI rfl) a0)) rfl (k_need_plan h_t1)) ?_))
  show wS _ [im ((tp PyData.int) bases), none, none, none, none, none] _
  obtain ⟨writes4, h_t3, h⟩ := bnd h
  refine w_seq ((t_setA (f := PyData.int) (v := writes4) (w := writes4) rfl (lcX (enc := PyData.int) (encB := PyData.int) h_t3 (seqTX (f := PyData.int) (l := bases) (vI rfl)) rfl (fun x2 _ => ⟨_, rfl, rfl, fun _ hq => (by have hq := Option.some.inj hq; subst hq; rfl), fun _ _ hq => (by have hq := Option.some.inj hq; subst hq; exact ⟨_, cI, rfl, rfl⟩)⟩)) rfl ?_))
  show wS _ [im ((tp PyData.int) bases), ac (writes4.map PyData.int), none, none, none, none] _
  obtain ⟨writes29, hl, h⟩ := bnd h
  refine w_seq ((t_forS (p2 PyData.int PyData.int) (enumL1 bases) (fun x_1 (writes_ : (List Int)) => f_line_writes_L1 bases x_1 writes_) (fun (writes_ : (List Int)) e => ∃ (o18 : Option PyData) (o19 : Option PyData) (o20 : Option PyData), e = [im ((tp PyData.int) bases), ac (writes_.map PyData.int), imo o18, imo o19, imo o20, none]) (enumFI (f := PyData.int) (l := bases) (vI rfl)) ⟨none, none, none, rfl⟩ hl (fun x_1 writes_ s2_ h e he => ?_) (fun e he => ?_)))
  · obtain ⟨o18, o19, o20, rfl⟩ := he
    refine ⟨rfl, _, rfl, ?_⟩
    show wS _ [im ((tp PyData.int) bases), ac (writes_.map PyData.int), im (PyData.int x_1.1), im (PyData.int x_1.2), imo o20, none] _
    replace h : f_line_writes_L1 bases x_1 writes_ = some s2_ := h
    unfold f_line_writes_L1 at h
    obtain ⟨is21, h_is21, h⟩ := bnd h
    obtain ⟨writes26, hl, h⟩ := bnd h
    refine (t_forS PyData.int is21 (fun x_2 (writes_ : (List Int)) => f_line_writes_L2 bases x_1.1 x_1.2 x_2 writes_) (fun (writes_ : (List Int)) e => ∃ (o22 : Option PyData), e = [im ((tp PyData.int) bases), ac (writes_.map PyData.int), im (PyData.int x_1.1), im (PyData.int x_1.2), imo o22, none]) (rng2I (vI rfl) (vI rfl) h_is21) ⟨o20, rfl⟩ hl (fun x_2 writes_ s2_ h e he => ?_) (fun e he => ?_))
    · obtain ⟨o22, rfl⟩ := he
      refine ⟨rfl, _, rfl, ?_⟩
      show wS _ [im ((tp PyData.int) bases), ac (writes_.map PyData.int), im (PyData.int x_1.1), im (PyData.int x_1.2), im (PyData.int x_2), none] _
      replace h : f_line_writes_L2 bases x_1.1 x_1.2 x_2 writes_ = some s2_ := h
      unfold f_line_writes_L2 at h
      obtain ⟨t23, h_t23, h⟩ := bnd h
      obtain ⟨writes24, h_writes24, h⟩ := bnd h
      refine (t_augI (l := writes_) h_t23 h_writes24 rfl (vI rfl) rfl cI rfl ?_)
      cases h
      exact ⟨some (PyData.int x_2), rfl⟩
    · obtain ⟨o27, rfl⟩ := he
      cases h
      exact ⟨some (PyData.int x_1.1), some (PyData.int x_1.2), o27, rfl⟩
  · obtain ⟨o30, o31, o32, rfl⟩ := he
    show wS _ [im ((tp PyData.int) bases), ac (writes29.map PyData.int), imo o30, imo o31, imo o32, none] _
    cases h
    refine w_seq ((w_ret (cbX (dX (vB rfl) d0 rfl) rfl) ?_))
    exact rfl
theorem k_mirrored {bases : (List Int)} {r : (List Int)} (h : f_mirrored bases = some r) : F_mirrored [(tp PyData.int) bases] = some (.im ((tp PyData.int) r)) := by
  unfold f_mirrored at h
  refine t_fnI (enc := (tp PyData.int)) rfl ?_
  show wS _ [im ((tp PyData.int) bases)] _
  obtain ⟨t1, h_t1, h⟩ := bnd h
  obtain ⟨t2, h_t2, h⟩ := bnd h
  cases h
  refine (w_ret (callI (aI (callI (aI (vI rfl) a0) rfl (k_track_of h_t1)) (aI cI a0)) rfl (k__built h_t2)) ?_)
  exact rfl
theorem k_cut_of {bases : (List Int)} {r : Int} (h : f_cut_of bases = some r) : F_cut_of [(tp PyData.int) bases] = some (.im (PyData.int r)) := by
  unfold f_cut_of at h
  refine t_fnI (enc := PyData.int) rfl ?_
  show wS _ [im ((tp PyData.int) bases)] _
  obtain ⟨t1, h_t1, h⟩ := bnd h
  refine w_seq ((w_drop (callI (aI (vI rfl) a0) rfl (k__need_changes h_t1)) ?_))
  show wS _ [im ((tp PyData.int) bases)] _
  obtain ⟨t2, h_t2, h⟩ := bnd h
  cases h
  refine w_seq ((w_ret (callI (aI (vI rfl) a0) rfl (k_last_full h_t2)) ?_))
  exact rfl
theorem k_parts_of {bases : (List Int)} {r : ((List Int) × (List Int))} (h : f_parts_of bases = some r) : F_parts_of [(tp PyData.int) bases] = some (.im ((p2 (tp PyData.int) (tp PyData.int)) r)) := by
  unfold f_parts_of at h
  refine t_fnI (enc := (p2 (tp PyData.int) (tp PyData.int))) rfl ?_
  show wS _ [im ((tp PyData.int) bases)] _
  obtain ⟨t1, h_t1, h⟩ := bnd h
  refine w_seq ((w_drop (callI (aI (vI rfl) a0) rfl (k__need_changes h_t1)) ?_))
  show wS _ [im ((tp PyData.int) bases)] _
  obtain ⟨t2, h_t2, h⟩ := bnd h
  cases h
  refine w_seq ((w_ret (callI (aI (vI rfl) a0) rfl (k_ahead_and_behind h_t2)) ?_))
  exact rfl
theorem k__law_ask_two {left : PyData} {right : PyData} {r : PyData} (h : f_w_ask_two left right = some r) : F__law_ask_two [idD left, idD right] = some (.im (idD r)) := chI_ok h
theorem k__law_ask {which : Int} {value : PyData} {r : PyData} (h : f_w_ask which value = some r) : F__law_ask [PyData.int which, idD value] = some (.im (idD r)) := chI_ok h
theorem kB__law_same {N : Nat} {rec_ : PyData → PyData → Option Bool} (hrec : ∀ {told : PyData} {due : PyData} {r : Bool}, rec_ told due = some r → R__law_same N [idD told, idD due] = some (.im (PyData.bool r))) {told : PyData} {due : PyData} {r : Bool} (h : f_w_same_B rec_ told due = some r) : R__law_same (N + 1) [idD told, idD due] = some (.im (PyData.bool r)) := by
  unfold f_w_same_B at h
  refine t_fnI (enc := PyData.bool) rfl ?_
  show wS _ [im (idD told), im (idD due), none, none] _
  obtain ⟨t1, h_t1, h⟩ := bnd h
  refine w_seq ((w_if (b := t1) (bang (isX (vI rfl) rfl h_t1)) (fun hc2 => ?_) (fun hc2 => ?_)))
  · rw [if1 hc2] at h
    obtain ⟨t3, h_t3, h⟩ := bnd h
    obtain ⟨t6, h_t6, h⟩ := bnd h
    refine w_seq ((w_if (b := t6) (torX (tnot (bang (isX (vI rfl) rfl h_t3))) h_t6 (fun _ _ hq => (by obtain ⟨t4, h_t4, hq⟩ := bnd hq; obtain ⟨t5, h_t5, hq⟩ := bnd hq; have hq := Option.some.inj hq; subst hq; exact (bang (binX (cbX (dX (vI rfl) d0 rfl) (iD_ok h_t4)) (cbX (dX (vI rfl) d0 rfl) (iD_ok h_t5)) rfl rfl e_ne))))) (fun hc7 => ?_) (fun hc7 => ?_)))
    · rw [if1 hc7] at h
      cases h
      refine (w_ret cI ?_)
      exact rfl
    · rw [if0 hc7] at h
      refine w_nx ?_
      show wS _ [im (idD told), im (idD due), none, none] _
      obtain ⟨zs8, h_zs8, h⟩ := bnd h
      obtain ⟨l_, hl, h⟩ := bnd h
      refine w_seq ((t_forG (p2 idD idD) zs8 (fun x_1 (s_ : Unit) => f_w_same_L1 rec_ told due x_1) (fun (s_ : Unit) e => ∃ (o13 : Option PyData) (o14 : Option PyData), e = [im (idD told), im (idD due), imo o13, imo o14]) (rtI PyData.bool) (zkX (vI rfl) (vI rfl) h_zs8) ⟨none, none, rfl⟩ hl (fun x_1 s_ l2_ h e he => ?_) (fun s17 hs e he => ?_) (fun r_ hs r2_ e hr => ?_)))
      · obtain ⟨o13, o14, rfl⟩ := he
        refine ⟨rfl, _, rfl, ?_⟩
        show wS _ [im (idD told), im (idD due), im (idD x_1.1), im (idD x_1.2)] _
        replace h : f_w_same_L1 rec_ told due x_1 = some l2_ := h
        unfold f_w_same_L1 at h
        obtain ⟨t15, h_t15, h⟩ := bnd h
        refine (w_if (b := (!t15)) (tnot (bang (callI (aI (vI rfl) (aI (vI rfl) a0)) rfl (hrec h_t15)))) (fun hc16 => ?_) (fun hc16 => ?_))
        · rw [if1 hc16] at h
          cases h
          refine (w_ret cI ?_)
          exact rfl
        · rw [if0 hc16] at h
          refine w_nx ?_
          cases h
          exact ⟨some (idD x_1.1), some (idD x_1.2), rfl⟩
      · subst hs
        replace h : _ = some r := h
        dsimp only at h
        obtain ⟨o18, o19, rfl⟩ := he
        show wS _ [im (idD told), im (idD due), imo o18, imo o19] _
        cases h
        refine w_seq ((w_ret cI ?_))
        exact rfl
      · subst hs
        cases h
        exact hr
  · rw [if0 hc2] at h
    refine w_nx ?_
    show wS _ [im (idD told), im (idD due), none, none] _
    obtain ⟨t20, h_t20, h⟩ := bnd h
    refine w_seq ((w_if (b := t20) (bang (isX (vI rfl) rfl h_t20)) (fun hc21 => ?_) (fun hc21 => ?_)))
    · rw [if1 hc21] at h
      obtain ⟨t22, h_t22, h⟩ := bnd h
      obtain ⟨t24, h_t24, h⟩ := bnd h
      cases h
      refine (w_ret (andX (isX (vI rfl) rfl h_t22) h_t24 (fun _ _ hq => (by obtain ⟨t23, h_t23, hq⟩ := bnd hq; have hq := Option.some.inj hq; subst hq; exact (binX (vI rfl) (vI rfl) rfl rfl (bD_ok h_t23))))) ?_)
      exact rfl
    · rw [if0 hc21] at h
      refine w_nx ?_
      show wS _ [im (idD told), im (idD due), none, none] _
      obtain ⟨t25, h_t25, h⟩ := bnd h
      refine w_seq ((w_if (b := t25) (bang (isX (vI rfl) rfl h_t25)) (fun hc26 => ?_) (fun hc26 => ?_)))
      · rw [if1 hc26] at h
        obtain ⟨t27, h_t27, h⟩ := bnd h
        obtain ⟨t31, h_t31, h⟩ := bnd h
        cases h
        refine (w_ret (andX (isX (vI rfl) rfl h_t27) h_t31 (fun _ _ hq => (by obtain ⟨t28, h_t28, hq⟩ := bnd hq; obtain ⟨t30, h_t30, hq⟩ := bnd hq; have hq := Option.some.inj hq; subst hq; exact (andX (notX (isX (vI rfl) rfl h_t28)) h_t30 (fun _ _ hq => (by obtain ⟨t29, h_t29, hq⟩ := bnd hq; have hq := Option.some.inj hq; subst hq; exact (binX (vI rfl) (vI rfl) rfl rfl (bD_ok h_t29)))))))) ?_)
        exact rfl
      · rw [if0 hc26] at h
        refine w_nx ?_
        show wS _ [im (idD told), im (idD due), none, none] _
        obtain ⟨t32, h_t32, h⟩ := bnd h
        obtain ⟨t36, h_t36, h⟩ := bnd h
        cases h
        refine w_seq ((w_ret (andX (isX (vI rfl) rfl h_t32) h_t36 (fun _ _ hq => (by obtain ⟨t33, h_t33, hq⟩ := bnd hq; obtain ⟨t35, h_t35, hq⟩ := bnd hq; have hq := Option.some.inj hq; subst hq; exact (andX (isX (vI rfl) rfl h_t33) h_t35 (fun _ _ hq => (by obtain ⟨t34, h_t34, hq⟩ := bnd hq; have hq := Option.some.inj hq; subst hq; exact (binX (vI rfl) (vI rfl) rfl rfl (bD_ok h_t34)))))))) ?_))
        exact rfl
theorem kR__law_same : ∀ (N : Nat) {told : PyData} {due : PyData} {r : Bool}, f_w_same_R N told due = some r → R__law_same N [idD told, idD due] = some (.im (PyData.bool r))
  | 0, _, _, _, h => by cases h
  | N + 1, _, _, _, h => kB__law_same (fun h => kR__law_same N h) h
theorem k__law_same {told : PyData} {due : PyData} {r : Bool} (h : f_w_same told due = some r) : F__law_same [idD told, idD due] = some (.im (PyData.bool r)) := kR__law_same 24 h
theorem k__law_plan_holds {found : (List Int)} {r : Bool} (h : f_w_plan_holds found = some r) : F__law_plan_holds [(tp PyData.int) found] = some (.im (PyData.bool r)) := by
  unfold f_w_plan_holds at h
  refine t_fnI (enc := PyData.bool) rfl ?_
  show wS _ [im ((tp PyData.int) found), none, none, none, none, none, none, none, none, none, none, none, none] _
  obtain ⟨size1, h_size1, h⟩ := bnd h
  refine w_seq ((t_set (f := PyData.int) (v := (found.length : Int)) (w := size1) h_size1 (cbX (dX (vI rfl) d0 rfl) (o_lenT (f := PyData.int) (l := found))) rfl ?_))
  show wS _ [im ((tp PyData.int) found), im (PyData.int size1), none, none, none, none, none, none, none, none, none, none, none] _
  obtain ⟨reads3, h_t2, h⟩ := bnd h
  refine w_seq ((t_setL (f := PyData.int) (v := reads3) (w := reads3) rfl (callA (aI (vI rfl) a0) rfl (k__law_reads h_t2)) rfl ?_))
  show wS _ [im ((tp PyData.int) found), im (PyData.int size1), im ((ls PyData.int) reads3), none, none, none, none, none, none, none, none, none, none] _
  obtain ⟨writes5, h_t4, h⟩ := bnd h
  refine w_seq ((t_setL (f := PyData.int) (v := writes5) (w := writes5) rfl (callA (aI (vI rfl) a0) rfl (k__law_writes h_t4)) rfl ?_))
  show wS _ [im ((tp PyData.int) found), im (PyData.int size1), im ((ls PyData.int) reads3), im ((ls PyData.int) writes5), none, none, none, none, none, none, none, none, none] _
  obtain ⟨is6, h_is6, h⟩ := bnd h
  obtain ⟨due12, h_t11, h⟩ := bnd h
  refine w_seq ((t_set (f := (tp (p2 PyData.int PyData.int))) (v := due12) (w := due12) rfl (cbX (dX (lcX (enc := PyData.int) (encB := (p2 PyData.int PyData.int)) h_t11 (rng1I (binX (vI rfl) cI rfl rfl e_add) h_is6) rfl (fun x7 _ => ⟨_, rfl, rfl, fun _ hq => (by have hq := Option.some.inj hq; subst hq; rfl), fun _ _ hq => (by obtain ⟨t8, h_t8, hq⟩ := bnd hq; obtain ⟨t9, h_t9, hq⟩ := bnd hq; obtain ⟨t10, h_t10, hq⟩ := bnd hq; have hq := Option.some.inj hq; subst hq; exact ⟨_, (tupI (aI (binX (binX (vI rfl) (lstX (aI cI a0) (Nat.le_of_ble_eq_true rfl)) rfl rfl (o_catL (f := PyData.int) (l := writes5) (m := [(0 : Int)]) h_t8)) (vI rfl) rfl rfl (o_ixL (f := PyData.int) (l := t8) h_t9)) (aI (binX (vI rfl) (vI rfl) rfl rfl (o_ixL (f := PyData.int) (l := reads3) h_t10)) a0)) (Nat.le_of_ble_eq_true rfl)), rfl, rfl⟩)⟩)) d0 rfl) rfl) rfl ?_))
  show wS _ [im ((tp PyData.int) found), im (PyData.int size1), im ((ls PyData.int) reads3), im ((ls PyData.int) writes5), im ((tp (p2 PyData.int PyData.int)) due12), none, none, none, none, none, none, none, none] _
  obtain ⟨sign14, h_t13, h⟩ := bnd h
  refine w_seq ((t_set (f := PyData.str) (v := sign14) (w := sign14) rfl (callI (aI (vI rfl) a0) rfl (k_track_of h_t13)) rfl ?_))
  show wS _ [im ((tp PyData.int) found), im (PyData.int size1), im ((ls PyData.int) reads3), im ((ls PyData.int) writes5), im ((tp (p2 PyData.int PyData.int)) due12), im (PyData.str sign14), none, none, none, none, none, none, none] _
  obtain ⟨t15, h_t15, h⟩ := bnd h
  obtain ⟨t16, h_t16, h⟩ := bnd h
  obtain ⟨t19, h_t19, h⟩ := bnd h
  refine w_seq ((w_if (b := t19) (torX (tnot (bang (callI (aI (callI (aI (vI rfl) a0) rfl (k_is_line_plan h_t15)) (aI cI a0)) rfl (k__law_same h_t16)))) h_t19 (fun _ _ hq => (by obtain ⟨t18, h_t18, hq⟩ := bnd hq; have hq := Option.some.inj hq; subst hq; exact (torX (tnot (bang (isX (vI rfl) rfl rfl))) h_t18 (fun _ _ hq => (by obtain ⟨t17, h_t17, hq⟩ := bnd hq; have hq := Option.some.inj hq; subst hq; exact (bang (binX (callI (aI (vI rfl) a0) rfl (k__law_buds h_t17)) (vI rfl) rfl rfl (o_ne (f := (opt (tp (p2 PyData.int PyData.int)))) (by decide) t17 (some due12)))))))))) (fun hc20 => ?_) (fun hc20 => ?_)))
  · rw [if1 hc20] at h
    cases h
    refine (w_ret cI ?_)
    exact rfl
  · rw [if0 hc20] at h
    refine w_nx ?_
    show wS _ [im ((tp PyData.int) found), im (PyData.int size1), im ((ls PyData.int) reads3), im ((ls PyData.int) writes5), im ((tp (p2 PyData.int PyData.int)) due12), im (PyData.str sign14), none, none, none, none, none, none, none] _
    obtain ⟨t21, h_t21, h⟩ := bnd h
    obtain ⟨t22, h_t22, h⟩ := bnd h
    obtain ⟨t25, h_t25, h⟩ := bnd h
    refine w_seq ((w_if (b := t25) (torX (tnot (bang (callI (aI (callI (aI (vI rfl) a0) rfl (k_turns_of h_t21)) (aI (vI rfl) a0)) rfl (k__law_same h_t22)))) h_t25 (fun _ _ hq => (by obtain ⟨t23, h_t23, hq⟩ := bnd hq; obtain ⟨t24, h_t24, hq⟩ := bnd hq; have hq := Option.some.inj hq; subst hq; exact (tnot (bang (callI (aI (callI (aI (vI rfl) a0) rfl (k_bases_from h_t23)) (aI (vI rfl) a0)) rfl (k__law_same h_t24))))))) (fun hc26 => ?_) (fun hc26 => ?_)))
    · rw [if1 hc26] at h
      cases h
      refine (w_ret cI ?_)
      exact rfl
    · rw [if0 hc26] at h
      refine w_nx ?_
      show wS _ [im ((tp PyData.int) found), im (PyData.int size1), im ((ls PyData.int) reads3), im ((ls PyData.int) writes5), im ((tp (p2 PyData.int PyData.int)) due12), im (PyData.str sign14), none, none, none, none, none, none, none] _
      obtain ⟨is27, h_is27, h⟩ := bnd h
      obtain ⟨t30, h_t30, h⟩ := bnd h
      obtain ⟨t31, h_t31, h⟩ := bnd h
      obtain ⟨turned33, h_t32, h⟩ := bnd h
      refine w_seq ((t_set (f := (tp PyData.int)) (v := turned33) (w := turned33) rfl (callI (aA (binX (lstX (aI cI a0) (Nat.le_of_ble_eq_true rfl)) (lcX (enc := PyData.int) (encB := PyData.int) h_t30 (rng2I cI (binX (vI rfl) cI rfl rfl e_add) h_is27) rfl (fun x28 _ => ⟨_, rfl, rfl, fun _ hq => (by have hq := Option.some.inj hq; subst hq; rfl), fun _ _ hq => (by obtain ⟨t29, h_t29, hq⟩ := bnd hq; have hq := Option.some.inj hq; subst hq; exact ⟨_, (binX (vI rfl) (binX (vI rfl) (vI rfl) rfl rfl e_sub) rfl rfl (o_ixL (f := PyData.int) (l := writes5) h_t29)), rfl, rfl⟩)⟩)) rfl rfl (o_catL (f := PyData.int) (l := [(0 : Int)]) (m := t30) h_t31)) a0) rfl (k__law_by_reads h_t32)) rfl ?_))
      show wS _ [im ((tp PyData.int) found), im (PyData.int size1), im ((ls PyData.int) reads3), im ((ls PyData.int) writes5), im ((tp (p2 PyData.int PyData.int)) due12), im (PyData.str sign14), im ((tp PyData.int) turned33), none, none, none, none, none, none] _
      obtain ⟨t34, h_t34, h⟩ := bnd h
      obtain ⟨t35, h_t35, h⟩ := bnd h
      obtain ⟨t38, h_t38, h⟩ := bnd h
      refine w_seq ((w_if (b := t38) (torX (tnot (bang (callI (aI (callI (aI (vI rfl) a0) rfl (k_mirrored h_t34)) (aI (vI rfl) a0)) rfl (k__law_same h_t35)))) h_t38 (fun _ _ hq => (by obtain ⟨t36, h_t36, hq⟩ := bnd hq; obtain ⟨t37, h_t37, hq⟩ := bnd hq; have hq := Option.some.inj hq; subst hq; exact (tnot (bang (callI (aI (callI (aI (vI rfl) a0) rfl (k_mirrored h_t36)) (aI (vI rfl) a0)) rfl (k__law_same h_t37))))))) (fun hc39 => ?_) (fun hc39 => ?_)))
      · rw [if1 hc39] at h
        cases h
        refine (w_ret cI ?_)
        exact rfl
      · rw [if0 hc39] at h
        refine w_nx ?_
        show wS _ [im ((tp PyData.int) found), im (PyData.int size1), im ((ls PyData.int) reads3), im ((ls PyData.int) writes5), im ((tp (p2 PyData.int PyData.int)) due12), im (PyData.str sign14), im ((tp PyData.int) turned33), none, none, none, none, none, none] _
        obtain ⟨t40, h_t40, h⟩ := bnd h
        obtain ⟨t41, h_t41, h⟩ := bnd h
        obtain ⟨t44, h_t44, h⟩ := bnd h
        refine w_seq ((w_if (b := t44) (torX (tnot (bang (callI (aI (callI (aI (vI rfl) a0) rfl (k_line_reads h_t40)) (aI (cbX (dX (vI rfl) d0 rfl) rfl) a0)) rfl (k__law_same h_t41)))) h_t44 (fun _ _ hq => (by obtain ⟨t42, h_t42, hq⟩ := bnd hq; obtain ⟨t43, h_t43, hq⟩ := bnd hq; have hq := Option.some.inj hq; subst hq; exact (tnot (bang (callI (aI (callI (aI (vI rfl) a0) rfl (k_line_writes h_t42)) (aI (cbX (dX (vI rfl) d0 rfl) rfl) a0)) rfl (k__law_same h_t43))))))) (fun hc45 => ?_) (fun hc45 => ?_)))
        · rw [if1 hc45] at h
          cases h
          refine (w_ret cI ?_)
          exact rfl
        · rw [if0 hc45] at h
          refine w_nx ?_
          show wS _ [im ((tp PyData.int) found), im (PyData.int size1), im ((ls PyData.int) reads3), im ((ls PyData.int) writes5), im ((tp (p2 PyData.int PyData.int)) due12), im (PyData.str sign14), im ((tp PyData.int) turned33), none, none, none, none, none, none] _
          refine w_seq ((w_if (b := (decide (size1 = (0 : Int)))) (bang (binX (vI rfl) cI rfl rfl e_eq)) (fun hc46 => ?_) (fun hc46 => ?_)))
          · rw [if1 hc46] at h
            obtain ⟨t47, h_t47, h⟩ := bnd h
            obtain ⟨t48, h_t48, h⟩ := bnd h
            obtain ⟨t51, h_t51, h⟩ := bnd h
            cases h
            refine (w_ret (andX (binX (callI (aI cI (aI (tupI a0 (Nat.le_of_ble_eq_true rfl)) a0)) rfl (k__law_ask h_t47)) (tupI (aI cI (aI cI (aI (negI cI) a0))) (Nat.le_of_ble_eq_true rfl)) rfl rfl (bD_ok h_t48)) h_t51 (fun _ _ hq => (by obtain ⟨t49, h_t49, hq⟩ := bnd hq; obtain ⟨t50, h_t50, hq⟩ := bnd hq; have hq := Option.some.inj hq; subst hq; exact (binX (callI (aI cI (aI (tupI a0 (Nat.le_of_ble_eq_true rfl)) a0)) rfl (k__law_ask h_t49)) (tupI (aI cI (aI cI (aI (negI cI) a0))) (Nat.le_of_ble_eq_true rfl)) rfl rfl (bD_ok h_t50))))) ?_)
            exact rfl
          · rw [if0 hc46] at h
            refine w_nx ?_
            show wS _ [im ((tp PyData.int) found), im (PyData.int size1), im ((ls PyData.int) reads3), im ((ls PyData.int) writes5), im ((tp (p2 PyData.int PyData.int)) due12), im (PyData.str sign14), im ((tp PyData.int) turned33), none, none, none, none, none, none] _
            obtain ⟨is52, h_is52, h⟩ := bnd h
            obtain ⟨t55, h_t55, h⟩ := bnd h
            obtain ⟨cut57, h_t56, h⟩ := bnd h
            refine w_seq ((t_set (f := PyData.int) (v := cut57) (w := cut57) rfl (cbX (dX (lcX (enc := PyData.int) (encB := PyData.int) h_t55 (rng2I cI (binX (vI rfl) cI rfl rfl e_add) h_is52) rfl (fun x53 _ => ⟨_, rfl, rfl, fun _ hq => (by obtain ⟨t54, h_t54, hq⟩ := bnd hq; have hq := Option.some.inj hq; subst hq; exact (bang (binX (binX (vI rfl) (vI rfl) rfl rfl (o_ixL (f := PyData.int) (l := reads3) h_t54)) cI rfl rfl e_eq))), fun _ _ hq => (by have hq := Option.some.inj hq; subst hq; exact ⟨_, (vI rfl), rfl, rfl⟩)⟩)) d0 rfl) (o_maxL (l := t55) h_t56)) rfl ?_))
            show wS _ [im ((tp PyData.int) found), im (PyData.int size1), im ((ls PyData.int) reads3), im ((ls PyData.int) writes5), im ((tp (p2 PyData.int PyData.int)) due12), im (PyData.str sign14), im ((tp PyData.int) turned33), im (PyData.int cut57), none, none, none, none, none] _
            obtain ⟨ahead59, h_t58, h⟩ := bnd h
            refine w_seq ((t_set (f := (tp PyData.int)) (v := ahead59) (w := ahead59) rfl (callI (aA (cutLX (f := PyData.int) (l := reads3) (vI rfl) oN (oA (vI rfl)) rfl) a0) rfl (k__law_by_reads h_t58)) rfl ?_))
            show wS _ [im ((tp PyData.int) found), im (PyData.int size1), im ((ls PyData.int) reads3), im ((ls PyData.int) writes5), im ((tp (p2 PyData.int PyData.int)) due12), im (PyData.str sign14), im ((tp PyData.int) turned33), im (PyData.int cut57), im ((tp PyData.int) ahead59), none, none, none, none] _
            obtain ⟨t61, h_t61, h⟩ := bnd h
            obtain ⟨t62, h_t62, h⟩ := bnd h
            obtain ⟨behind64, h_t63, h⟩ := bnd h
            refine w_seq ((t_set (f := (tp PyData.int)) (v := behind64) (w := behind64) rfl (callI (aA (binX (lstX (aI cI a0) (Nat.le_of_ble_eq_true rfl)) (lcX (enc := PyData.int) (encB := PyData.int) h_t61 (seqAX (f := PyData.int) (l := (cutD reads3 (some (cut57 + (1 : Int))) none)) (cutLX (f := PyData.int) (l := reads3) (vI rfl) (oA (binX (vI rfl) cI rfl rfl e_add)) oN rfl)) rfl (fun x60 _ => ⟨_, rfl, rfl, fun _ hq => (by have hq := Option.some.inj hq; subst hq; rfl), fun _ _ hq => (by have hq := Option.some.inj hq; subst hq; exact ⟨_, (binX (vI rfl) cI rfl rfl e_sub), rfl, rfl⟩)⟩)) rfl rfl (o_catL (f := PyData.int) (l := [(0 : Int)]) (m := t61) h_t62)) a0) rfl (k__law_by_reads h_t63)) rfl ?_))
            show wS _ [im ((tp PyData.int) found), im (PyData.int size1), im ((ls PyData.int) reads3), im ((ls PyData.int) writes5), im ((tp (p2 PyData.int PyData.int)) due12), im (PyData.str sign14), im ((tp PyData.int) turned33), im (PyData.int cut57), im ((tp PyData.int) ahead59), im ((tp PyData.int) behind64), none, none, none] _
            obtain ⟨t65, h_t65, h⟩ := bnd h
            obtain ⟨t66, h_t66, h⟩ := bnd h
            obtain ⟨t69, h_t69, h⟩ := bnd h
            refine w_seq ((w_if (b := t69) (torX (tnot (bang (callI (aI (callI (aI (vI rfl) a0) rfl (k_cut_of h_t65)) (aI (vI rfl) a0)) rfl (k__law_same h_t66)))) h_t69 (fun _ _ hq => (by obtain ⟨t67, h_t67, hq⟩ := bnd hq; obtain ⟨t68, h_t68, hq⟩ := bnd hq; have hq := Option.some.inj hq; subst hq; exact (tnot (bang (callI (aI (callI (aI (vI rfl) a0) rfl (k_parts_of h_t67)) (aI (tupI (aI (vI rfl) (aI (vI rfl) a0)) (Nat.le_of_ble_eq_true rfl)) a0)) rfl (k__law_same h_t68))))))) (fun hc70 => ?_) (fun hc70 => ?_)))
            · rw [if1 hc70] at h
              cases h
              refine (w_ret cI ?_)
              exact rfl
            · rw [if0 hc70] at h
              refine w_nx ?_
              show wS _ [im ((tp PyData.int) found), im (PyData.int size1), im ((ls PyData.int) reads3), im ((ls PyData.int) writes5), im ((tp (p2 PyData.int PyData.int)) due12), im (PyData.str sign14), im ((tp PyData.int) turned33), im (PyData.int cut57), im ((tp PyData.int) ahead59), im ((tp PyData.int) behind64), none, none, none] _
              obtain ⟨t71, h_t71, h⟩ := bnd h
              obtain ⟨t72, h_t72, h⟩ := bnd h
              obtain ⟨t75, h_t75, h⟩ := bnd h
              refine w_seq ((w_if (b := t75) (torX (tnot (bang (callI (aI (callKI a0 (aI (vI rfl) a0) rfl (k_cut_of h_t71)) (aI (vI rfl) a0)) rfl (k__law_same h_t72)))) h_t75 (fun _ _ hq => (by obtain ⟨t73, h_t73, hq⟩ := bnd hq; obtain ⟨t74, h_t74, hq⟩ := bnd hq; have hq := Option.some.inj hq; subst hq; exact (tnot (bang (callI (aI (callKI a0 (aI (vI rfl) a0) rfl (k_parts_of h_t73)) (aI (tupI (aI (vI rfl) (aI (vI rfl) a0)) (Nat.le_of_ble_eq_true rfl)) a0)) rfl (k__law_same h_t74))))))) (fun hc76 => ?_) (fun hc76 => ?_)))
              · rw [if1 hc76] at h
                cases h
                refine (w_ret cI ?_)
                exact rfl
              · rw [if0 hc76] at h
                refine w_nx ?_
                show wS _ [im ((tp PyData.int) found), im (PyData.int size1), im ((ls PyData.int) reads3), im ((ls PyData.int) writes5), im ((tp (p2 PyData.int PyData.int)) due12), im (PyData.str sign14), im ((tp PyData.int) turned33), im (PyData.int cut57), im ((tp PyData.int) ahead59), im ((tp PyData.int) behind64), none, none, none] _
                obtain ⟨t77, h_t77, h⟩ := bnd h
                obtain ⟨t78, h_t78, h⟩ := bnd h
                refine w_seq ((w_if (b := (!t78)) (tnot (bang (callI (aI (callKI a0 (aI (vI rfl) a0) rfl (k_line_reads h_t77)) (aI (cbX (dX (vI rfl) d0 rfl) rfl) a0)) rfl (k__law_same h_t78)))) (fun hc79 => ?_) (fun hc79 => ?_)))
                · rw [if1 hc79] at h
                  cases h
                  refine (w_ret cI ?_)
                  exact rfl
                · rw [if0 hc79] at h
                  refine w_nx ?_
                  show wS _ [im ((tp PyData.int) found), im (PyData.int size1), im ((ls PyData.int) reads3), im ((ls PyData.int) writes5), im ((tp (p2 PyData.int PyData.int)) due12), im (PyData.str sign14), im ((tp PyData.int) turned33), im (PyData.int cut57), im ((tp PyData.int) ahead59), im ((tp PyData.int) behind64), none, none, none] _
                  obtain ⟨t80, h_t80, h⟩ := bnd h
                  obtain ⟨t81, h_t81, h⟩ := bnd h
                  refine w_seq ((w_if (b := (!t81)) (tnot (bang (callI (aI (callKI a0 (aI (vI rfl) a0) rfl (k_line_writes h_t80)) (aI (cbX (dX (vI rfl) d0 rfl) rfl) a0)) rfl (k__law_same h_t81)))) (fun hc82 => ?_) (fun hc82 => ?_)))
                  · rw [if1 hc82] at h
                    cases h
                    refine (w_ret cI ?_)
                    exact rfl
                  · rw [if0 hc82] at h
                    refine w_nx ?_
                    show wS _ [im ((tp PyData.int) found), im (PyData.int size1), im ((ls PyData.int) reads3), im ((ls PyData.int) writes5), im ((tp (p2 PyData.int PyData.int)) due12), im (PyData.str sign14), im ((tp PyData.int) turned33), im (PyData.int cut57), im ((tp PyData.int) ahead59), im ((tp PyData.int) behind64), none, none, none] _
                    obtain ⟨t83, h_t83, h⟩ := bnd h
                    obtain ⟨t84, h_t84, h⟩ := bnd h
                    cases h
                    refine w_seq ((w_ret (callI (aI (callI (aI (vI rfl) (aI (vI rfl) a0)) rfl (k_joined_plans h_t83)) (aI (vI rfl) a0)) rfl (k__law_same h_t84)) ?_))
                    exact rfl
theorem k__law_sign_holds {text : Str} {r : Bool} (h : f_w_sign_holds text = some r) : F__law_sign_holds [PyData.str text] = some (.im (PyData.bool r)) := by
  unfold f_w_sign_holds at h
  refine t_fnI (enc := PyData.bool) rfl ?_
  show wS _ [im (PyData.str text), none, none, none] _
  obtain ⟨buds2, h_t1, h⟩ := bnd h
  refine w_seq ((t_set (f := (opt (tp (p2 PyData.int PyData.int)))) (v := buds2) (w := buds2) rfl (callI (aI (vI rfl) a0) rfl (k__law_buds h_t1)) rfl ?_))
  show wS _ [im (PyData.str text), im ((opt (tp (p2 PyData.int PyData.int))) buds2), none, none] _
  obtain ⟨t3, h_t3, h⟩ := bnd h
  obtain ⟨t4, h_t4, h⟩ := bnd h
  refine w_seq ((w_if (b := (!t4)) (tnot (bang (callI (aI (callI (aI (vI rfl) a0) rfl (k_is_track h_t3)) (aI (binX (vI rfl) cI rfl rfl (o_isnotO (f := (tp (p2 PyData.int PyData.int))) buds2)) a0)) rfl (k__law_same h_t4)))) (fun hc5 => ?_) (fun hc5 => ?_)))
  · rw [if1 hc5] at h
    cases h
    refine (w_ret cI ?_)
    exact rfl
  · rw [if0 hc5] at h
    refine w_nx ?_
    show wS _ [im (PyData.str text), im ((opt (tp (p2 PyData.int PyData.int))) buds2), none, none] _
    refine w_seq ((w_if (b := buds2.isNone) (bang (binX (vI rfl) cI rfl rfl (o_isO (f := (tp (p2 PyData.int PyData.int))) buds2))) (fun hc6 => ?_) (fun hc6 => ?_)))
    · rw [if1 hc6] at h
      obtain ⟨t7, h_t7, h⟩ := bnd h
      obtain ⟨t8, h_t8, h⟩ := bnd h
      obtain ⟨t11, h_t11, h⟩ := bnd h
      cases h
      refine (w_ret (andX (binX (callI (aI cI (aI (vI rfl) a0)) rfl (k__law_ask h_t7)) (tupI (aI cI (aI cI (aI (negI cI) a0))) (Nat.le_of_ble_eq_true rfl)) rfl rfl (bD_ok h_t8)) h_t11 (fun _ _ hq => (by obtain ⟨t9, h_t9, hq⟩ := bnd hq; obtain ⟨t10, h_t10, hq⟩ := bnd hq; have hq := Option.some.inj hq; subst hq; exact (binX (callI (aI cI (aI (vI rfl) a0)) rfl (k__law_ask h_t9)) (tupI (aI cI (aI cI (aI (negI cI) a0))) (Nat.le_of_ble_eq_true rfl)) rfl rfl (bD_ok h_t10))))) ?_)
      exact rfl
    · rw [if0 hc6] at h
      refine w_nx ?_
      show wS _ [im (PyData.str text), im ((opt (tp (p2 PyData.int PyData.int))) buds2), none, none] _
      obtain ⟨t12, h_t12, h⟩ := bnd h
      obtain ⟨t14, h_t14, h⟩ := bnd h
      obtain ⟨due16, h_t15, h⟩ := bnd h
      refine w_seq ((t_set (f := (tp PyData.int)) (v := due16) (w := due16) rfl (callI (aA (lcX (enc := (p2 PyData.int PyData.int)) (encB := PyData.int) h_t14 (seqTX (f := (p2 PyData.int PyData.int)) (l := t12) (optS (f := (tp (p2 PyData.int PyData.int))) (o := buds2) (w := t12) h_t12 (vI rfl))) rfl (fun x13 _ => ⟨_, rfl, rfl, fun _ hq => (by have hq := Option.some.inj hq; subst hq; rfl), fun _ _ hq => (by have hq := Option.some.inj hq; subst hq; exact ⟨_, (binX (vI rfl) cI rfl rfl rfl), rfl, rfl⟩)⟩)) a0) rfl (k__law_by_reads h_t15)) rfl ?_))
      show wS _ [im (PyData.str text), im ((opt (tp (p2 PyData.int PyData.int))) buds2), im ((tp PyData.int) due16), none] _
      obtain ⟨t17, h_t17, h⟩ := bnd h
      obtain ⟨t18, h_t18, h⟩ := bnd h
      obtain ⟨t21, h_t21, h⟩ := bnd h
      refine w_seq ((w_if (b := t21) (torX (tnot (bang (callI (aI (callI (aI cI (aI (vI rfl) a0)) rfl (k__law_ask h_t17)) (aI (tupI (aI cI (aI (vI rfl) a0)) (Nat.le_of_ble_eq_true rfl)) a0)) rfl (k__law_same h_t18)))) h_t21 (fun _ _ hq => (by obtain ⟨t19, h_t19, hq⟩ := bnd hq; obtain ⟨t20, h_t20, hq⟩ := bnd hq; have hq := Option.some.inj hq; subst hq; exact (tnot (bang (callI (aI (callI (aI cI (aI (vI rfl) a0)) rfl (k__law_ask h_t19)) (aI (tupI (aI cI (aI (vI rfl) a0)) (Nat.le_of_ble_eq_true rfl)) a0)) rfl (k__law_same h_t20))))))) (fun hc22 => ?_) (fun hc22 => ?_)))
      · rw [if1 hc22] at h
        cases h
        refine (w_ret cI ?_)
        exact rfl
      · rw [if0 hc22] at h
        refine w_nx ?_
        show wS _ [im (PyData.str text), im ((opt (tp (p2 PyData.int PyData.int))) buds2), im ((tp PyData.int) due16), none] _
        obtain ⟨t23, h_t23, h⟩ := bnd h
        obtain ⟨t24, h_t24, h⟩ := bnd h
        cases h
        refine w_seq ((w_ret (callI (aI (callI (aI (vI rfl) a0) rfl (k_track_of h_t23)) (aI (vI rfl) a0)) rfl (k__law_same h_t24)) ?_))
        exact rfl
theorem k__law_refused {found : (List Int)} {k_ : Int} {r : Bool} (h : f_w_refused found k_ = some r) : F__law_refused [(tp PyData.int) found, PyData.int k_] = some (.im (PyData.bool r)) := by
  unfold f_w_refused at h
  refine t_fnI (enc := PyData.bool) rfl ?_
  show wS _ [im ((tp PyData.int) found), im (PyData.int k_), none, none, none, none, none] _
  obtain ⟨size1, h_size1, h⟩ := bnd h
  refine w_seq ((t_set (f := PyData.int) (v := (found.length : Int)) (w := size1) h_size1 (cbX (dX (vI rfl) d0 rfl) (o_lenT (f := PyData.int) (l := found))) rfl ?_))
  show wS _ [im ((tp PyData.int) found), im (PyData.int k_), im (PyData.int size1), none, none, none, none] _
  obtain ⟨t2, h_t2, h⟩ := bnd h
  obtain ⟨t3, h_t3, h⟩ := bnd h
  obtain ⟨t4, h_t4, h⟩ := bnd h
  obtain ⟨t5, h_t5, h⟩ := bnd h
  obtain ⟨t6, h_t6, h⟩ := bnd h
  obtain ⟨t7, h_t7, h⟩ := bnd h
  obtain ⟨odd8, h_odd8, h⟩ := bnd h
  refine w_seq ((t_setL (f := idD) (v := [((ls PyData.int) found), (nn ()), (PyData.str ("-" : Str)), (PyData.int (7 : Int)), ((tp idD) t2), ((tp PyData.int) t3), ((tp PyData.int) t4), ((tp idD) t5), ((p1 (p1 PyData.int)) (0 : Int)), ((tp idD) t6), t7, ((p3 PyData.int PyData.bool PyData.int) ((0 : Int), true, (0 : Int))), ((p4 PyData.int PyData.int PyData.bool PyData.int) ((0 : Int), (1 : Int), false, (3 : Int)))]) (w := odd8) h_odd8 (lstX (aA (cbX (dX (vI rfl) d0 rfl) rfl) (aI cI (aI cI (aI cI (aI (binX (imAnyT (f := PyData.int) (l := found) (vI rfl)) (tupI (aI cI a0) (Nat.le_of_ble_eq_true rfl)) rfl rfl (o_catT (f := idD) (l := (List.map PyData.int found)) (m := [(PyData.bool true)]) h_t2)) (aI (binX (vI rfl) (tupI (aI (negI cI) a0) (Nat.le_of_ble_eq_true rfl)) rfl rfl (o_catT (f := PyData.int) (l := found) (m := [(-1 : Int)]) h_t3)) (aI (binX (vI rfl) (tupI (aI (binX (vI rfl) cI rfl rfl e_add) a0) (Nat.le_of_ble_eq_true rfl)) rfl rfl (o_catT (f := PyData.int) (l := found) (m := [(size1 + (1 : Int))]) h_t4)) (aI (binX (imAnyT (f := PyData.int) (l := found) (vI rfl)) (tupI (aI cI a0) (Nat.le_of_ble_eq_true rfl)) rfl rfl (o_catT (f := idD) (l := (List.map PyData.int found)) (m := [(PyData.str ("0" : Str))]) h_t5)) (aI (tupI (aI (tupI (aI cI a0) (Nat.le_of_ble_eq_true rfl)) a0) (Nat.le_of_ble_eq_true rfl)) (aI (binX (tupI (aI cI a0) (Nat.le_of_ble_eq_true rfl)) (imAnyT (f := PyData.int) (l := (cutD found (some (1 : Int)) none)) (cutTX (f := PyData.int) (l := found) (vI rfl) (oA cI) oN)) rfl rfl (o_catT (f := idD) (l := [(PyData.bool false)]) (m := (List.map PyData.int (cutD found (some (1 : Int)) none))) h_t6)) (aI (binX (vI rfl) (tupI (aI cI a0) (Nat.le_of_ble_eq_true rfl)) rfl rfl (vD_ok h_t7)) (aI (tupI (aI cI (aI cI (aI cI a0))) (Nat.le_of_ble_eq_true rfl)) (aI (tupI (aI cI (aI cI (aI cI (aI cI a0)))) (Nat.le_of_ble_eq_true rfl)) a0))))))))))))) (Nat.le_of_ble_eq_true rfl)) rfl ?_))
  show wS _ [im ((tp PyData.int) found), im (PyData.int k_), im (PyData.int size1), im ((ls idD) odd8), none, none, none] _
  obtain ⟨l_, hl, h⟩ := bnd h
  refine w_seq ((t_forG idD odd8 (fun x_1 (s_ : Unit) => f_w_refused_L1 found k_ odd8 x_1) (fun (s_ : Unit) e => ∃ (o13 : Option PyData), e = [im ((tp PyData.int) found), im (PyData.int k_), im (PyData.int size1), im ((ls idD) odd8), imo o13, none, none]) (rtI PyData.bool) (seqLX (f := idD) (l := odd8) (vI rfl)) ⟨none, rfl⟩ hl (fun x_1 s_ l2_ h e he => ?_) (fun s17 hs e he => ?_) (fun r_ hs r2_ e hr => ?_)))
  · obtain ⟨o13, rfl⟩ := he
    refine ⟨rfl, _, rfl, ?_⟩
    show wS _ [im ((tp PyData.int) found), im (PyData.int k_), im (PyData.int size1), im ((ls idD) odd8), im (idD x_1), none, none] _
    replace h : f_w_refused_L1 found k_ odd8 x_1 = some l2_ := h
    unfold f_w_refused_L1 at h
    obtain ⟨t14, h_t14, h⟩ := bnd h
    obtain ⟨t15, h_t15, h⟩ := bnd h
    refine (w_if (b := (!t15)) (tnot (bang (callI (aI (callI (aI (vI rfl) a0) rfl (k_is_line_plan h_t14)) (aI cI a0)) rfl (k__law_same h_t15)))) (fun hc16 => ?_) (fun hc16 => ?_))
    · rw [if1 hc16] at h
      cases h
      refine (w_ret cI ?_)
      exact rfl
    · rw [if0 hc16] at h
      refine w_nx ?_
      cases h
      exact ⟨some (idD x_1), rfl⟩
  · subst hs
    replace h : _ = some r := h
    dsimp only at h
    obtain ⟨o18, rfl⟩ := he
    show wS _ [im ((tp PyData.int) found), im (PyData.int k_), im (PyData.int size1), im ((ls idD) odd8), imo o18, none, none] _
    obtain ⟨is19, h_is19, h⟩ := bnd h
    obtain ⟨l_, hl, h⟩ := bnd h
    refine w_seq ((t_forG PyData.int is19 (fun x_2 (s_ : Unit) => f_w_refused_L2 found k_ odd8 x_2) (fun (s_ : Unit) e => ∃ (o26 : Option PyData), e = [im ((tp PyData.int) found), im (PyData.int k_), im (PyData.int size1), im ((ls idD) odd8), imo o18, imo o26, none]) (rtI PyData.bool) (rng1I cI h_is19) ⟨none, rfl⟩ hl (fun x_2 s_ l2_ h e he => ?_) (fun s32 hs e he => ?_) (fun r_ hs r2_ e hr => ?_)))
    · obtain ⟨o26, rfl⟩ := he
      refine ⟨rfl, _, rfl, ?_⟩
      show wS _ [im ((tp PyData.int) found), im (PyData.int k_), im (PyData.int size1), im ((ls idD) odd8), imo o18, im (PyData.int x_2), none] _
      replace h : f_w_refused_L2 found k_ odd8 x_2 = some l2_ := h
      unfold f_w_refused_L2 at h
      obtain ⟨t27, h_t27, h⟩ := bnd h
      obtain ⟨t28, h_t28, h⟩ := bnd h
      obtain ⟨t29, h_t29, h⟩ := bnd h
      obtain ⟨t30, h_t30, h⟩ := bnd h
      refine (w_if (b := t30) (bang (binX (callI (aI (vI rfl) (aI (binX (vI rfl) (binX (cbX (dX (binX (vI rfl) (vI rfl) rfl rfl e_add) d0 rfl) o_int) (cbX (dX (vI rfl) d0 rfl) (o_lenL (f := idD) (l := odd8))) rfl rfl (o_mod h_t27)) rfl rfl (o_ixL (f := idD) (l := odd8) h_t28)) a0)) rfl (k__law_ask h_t29)) (tupI (aI cI (aI cI (aI (negI cI) a0))) (Nat.le_of_ble_eq_true rfl)) rfl rfl (bD_ok h_t30))) (fun hc31 => ?_) (fun hc31 => ?_))
      · rw [if1 hc31] at h
        cases h
        refine (w_ret cI ?_)
        exact rfl
      · rw [if0 hc31] at h
        refine w_nx ?_
        cases h
        exact ⟨some (PyData.int x_2), rfl⟩
    · subst hs
      replace h : _ = some r := h
      dsimp only at h
      obtain ⟨o33, rfl⟩ := he
      show wS _ [im ((tp PyData.int) found), im (PyData.int k_), im (PyData.int size1), im ((ls idD) odd8), imo o18, imo o33, none] _
      obtain ⟨t34, h_t34, h⟩ := bnd h
      obtain ⟨first36, h_t35, h⟩ := bnd h
      refine w_seq ((t_set (f := idD) (v := first36) (w := first36) rfl (binX (vI rfl) (binX (cbX (dX (binX (vI rfl) cI rfl rfl e_add) d0 rfl) o_int) (cbX (dX (vI rfl) d0 rfl) (o_lenL (f := idD) (l := odd8))) rfl rfl (o_mod h_t34)) rfl rfl (o_ixL (f := idD) (l := odd8) h_t35)) rfl ?_))
      show wS _ [im ((tp PyData.int) found), im (PyData.int k_), im (PyData.int size1), im ((ls idD) odd8), imo o18, imo o33, im (idD first36)] _
      obtain ⟨t37, h_t37, h⟩ := bnd h
      obtain ⟨t38, h_t38, h⟩ := bnd h
      obtain ⟨t41, h_t41, h⟩ := bnd h
      refine w_seq ((w_if (b := t41) (torX (bang (binX (callI (aI (vI rfl) (aI (vI rfl) a0)) rfl (k__law_ask_two h_t37)) (tupI (aI cI (aI cI (aI (negI cI) a0))) (Nat.le_of_ble_eq_true rfl)) rfl rfl (bD_ok h_t38))) h_t41 (fun _ _ hq => (by obtain ⟨t39, h_t39, hq⟩ := bnd hq; obtain ⟨t40, h_t40, hq⟩ := bnd hq; have hq := Option.some.inj hq; subst hq; exact (bang (binX (callI (aI (vI rfl) (aI (vI rfl) a0)) rfl (k__law_ask_two h_t39)) (tupI (aI cI (aI cI (aI (negI cI) a0))) (Nat.le_of_ble_eq_true rfl)) rfl rfl (bD_ok h_t40)))))) (fun hc42 => ?_) (fun hc42 => ?_)))
      · rw [if1 hc42] at h
        cases h
        refine (w_ret cI ?_)
        exact rfl
      · rw [if0 hc42] at h
        refine w_nx ?_
        show wS _ [im ((tp PyData.int) found), im (PyData.int k_), im (PyData.int size1), im ((ls idD) odd8), imo o18, imo o33, im (idD first36)] _
        obtain ⟨t43, h_t43, h⟩ := bnd h
        obtain ⟨t44, h_t44, h⟩ := bnd h
        refine w_seq ((w_if (b := t44) (bang (binX (callI (aI (vI rfl) (aI (vI rfl) a0)) rfl (k__law_ask_two h_t43)) (tupI (aI cI (aI cI (aI (negI cI) a0))) (Nat.le_of_ble_eq_true rfl)) rfl rfl (bD_ok h_t44))) (fun hc45 => ?_) (fun hc45 => ?_)))
        · rw [if1 hc45] at h
          cases h
          refine (w_ret cI ?_)
          exact rfl
        · rw [if0 hc45] at h
          refine w_nx ?_
          show wS _ [im ((tp PyData.int) found), im (PyData.int k_), im (PyData.int size1), im ((ls idD) odd8), imo o18, imo o33, im (idD first36)] _
          obtain ⟨l_, hl, h⟩ := bnd h
          refine w_seq ((t_forG idD [((p1 PyData.str) ("-" : Str)), ((tp PyData.int) []), (nn ()), (PyData.int (5 : Int)), (PyData.bool true), ((ls PyData.str) [("+--" : Str)]), ((p3 PyData.str PyData.str PyData.str) (("+" : Str), ("-" : Str), ("-" : Str)))] (fun x_3 (s_ : Unit) => f_w_refused_L3 x_3) (fun (s_ : Unit) e => ∃ (o56 : Option PyData), e = [im ((tp PyData.int) found), im (PyData.int k_), im (PyData.int size1), im ((ls idD) odd8), imo o56, imo o33, im (idD first36)]) (rtI PyData.bool) (seqTX (f := idD) (l := [((p1 PyData.str) ("-" : Str)), ((tp PyData.int) []), (nn ()), (PyData.int (5 : Int)), (PyData.bool true), ((ls PyData.str) [("+--" : Str)]), ((p3 PyData.str PyData.str PyData.str) (("+" : Str), ("-" : Str), ("-" : Str)))]) (tupI (aI (tupI (aI cI a0) (Nat.le_of_ble_eq_true rfl)) (aI (tupI a0 (Nat.le_of_ble_eq_true rfl)) (aI cI (aI cI (aI cI (aA (lstX (aI cI a0) (Nat.le_of_ble_eq_true rfl)) (aI (tupI (aI cI (aI cI (aI cI a0))) (Nat.le_of_ble_eq_true rfl)) a0))))))) (Nat.le_of_ble_eq_true rfl))) ⟨o18, rfl⟩ hl (fun x_3 s_ l2_ h e he => ?_) (fun s66 hs e he => ?_) (fun r_ hs r2_ e hr => ?_)))
          · obtain ⟨o56, rfl⟩ := he
            refine ⟨rfl, _, rfl, ?_⟩
            show wS _ [im ((tp PyData.int) found), im (PyData.int k_), im (PyData.int size1), im ((ls idD) odd8), im (idD x_3), imo o33, im (idD first36)] _
            replace h : f_w_refused_L3 x_3 = some l2_ := h
            unfold f_w_refused_L3 at h
            obtain ⟨t57, h_t57, h⟩ := bnd h
            obtain ⟨t58, h_t58, h⟩ := bnd h
            obtain ⟨t61, h_t61, h⟩ := bnd h
            refine w_seq ((w_if (b := t61) (torX (tnot (bang (callI (aI (callI (aI (vI rfl) a0) rfl (k_is_track h_t57)) (aI cI a0)) rfl (k__law_same h_t58)))) h_t61 (fun _ _ hq => (by obtain ⟨t59, h_t59, hq⟩ := bnd hq; obtain ⟨t60, h_t60, hq⟩ := bnd hq; have hq := Option.some.inj hq; subst hq; exact (bang (binX (callI (aI cI (aI (vI rfl) a0)) rfl (k__law_ask h_t59)) (tupI (aI cI (aI cI (aI (negI cI) a0))) (Nat.le_of_ble_eq_true rfl)) rfl rfl (bD_ok h_t60)))))) (fun hc62 => ?_) (fun hc62 => ?_)))
            · rw [if1 hc62] at h
              cases h
              refine (w_ret cI ?_)
              exact rfl
            · rw [if0 hc62] at h
              refine w_nx ?_
              show wS _ [im ((tp PyData.int) found), im (PyData.int k_), im (PyData.int size1), im ((ls idD) odd8), im (idD x_3), imo o33, im (idD first36)] _
              obtain ⟨t63, h_t63, h⟩ := bnd h
              obtain ⟨t64, h_t64, h⟩ := bnd h
              refine w_seq ((w_if (b := t64) (bang (binX (callI (aI cI (aI (vI rfl) a0)) rfl (k__law_ask h_t63)) (tupI (aI cI (aI cI (aI (negI cI) a0))) (Nat.le_of_ble_eq_true rfl)) rfl rfl (bD_ok h_t64))) (fun hc65 => ?_) (fun hc65 => ?_)))
              · rw [if1 hc65] at h
                cases h
                refine (w_ret cI ?_)
                exact rfl
              · rw [if0 hc65] at h
                refine w_nx ?_
                show wS _ [im ((tp PyData.int) found), im (PyData.int k_), im (PyData.int size1), im ((ls idD) odd8), im (idD x_3), imo o33, im (idD first36)] _
                refine w_nx ?_
                cases h
                exact ⟨some (idD x_3), rfl⟩
          · subst hs
            replace h : _ = some r := h
            dsimp only at h
            obtain ⟨o67, rfl⟩ := he
            show wS _ [im ((tp PyData.int) found), im (PyData.int k_), im (PyData.int size1), im ((ls idD) odd8), imo o67, imo o33, im (idD first36)] _
            obtain ⟨t68, h_t68, h⟩ := bnd h
            obtain ⟨t69, h_t69, h⟩ := bnd h
            cases h
            refine w_seq ((w_ret (binX (callI (aI cI (aI (tupI (aI (tupI (aI cI (aI cI a0)) (Nat.le_of_ble_eq_true rfl)) a0) (Nat.le_of_ble_eq_true rfl)) a0)) rfl (k__law_ask h_t68)) (tupI (aI cI (aI cI (aI (negI cI) a0))) (Nat.le_of_ble_eq_true rfl)) rfl rfl (bD_ok h_t69)) ?_))
            exact rfl
          · subst hs
            cases h
            exact hr
    · subst hs
      cases h
      exact hr
  · subst hs
    cases h
    exact hr
theorem k__law_far_told {hand : ((List Int) × Int × Int × Int × Int)} {r : (Bool × ((List Int) × Int × Int × Int × Int))} (h : f_w_far_told hand = some r) : F__law_far_told ((q5 (ls PyData.int) PyData.int PyData.int PyData.int PyData.int) hand) [] = some (.im (PyData.bool r.1), (q5 (ls PyData.int) PyData.int PyData.int PyData.int PyData.int) r.2) := by
  unfold f_w_far_told at h
  refine t_fnMS (enc := PyData.bool) (es := (q5 (ls PyData.int) PyData.int PyData.int PyData.int PyData.int)) rfl ?_
  show wS _ [ac ((q5 (ls PyData.int) PyData.int PyData.int PyData.int PyData.int) hand), none, none] _
  obtain ⟨t1, h_t1, h⟩ := bnd h
  obtain ⟨far2, h_far2, h⟩ := bnd h
  refine w_seq ((t_set (f := (tp PyData.int)) (v := t1.1) (w := far2) h_far2 (mI (c := (q5 (ls PyData.int) PyData.int PyData.int PyData.int PyData.int) hand) rfl (aI cI a0) rfl rfl (k__law_plan h_t1)) rfl ?_))
  show wS _ [ac ((q5 (ls PyData.int) PyData.int PyData.int PyData.int PyData.int) t1.2), im ((tp PyData.int) far2), none] _
  obtain ⟨t3, h_t3, h⟩ := bnd h
  obtain ⟨t4, h_t4, h⟩ := bnd h
  obtain ⟨t5, h_t5, h⟩ := bnd h
  obtain ⟨long7, h_t6, h⟩ := bnd h
  refine w_seq ((t_set (f := PyData.str) (v := long7) (w := long7) rfl (binX (binX cI (mI (c := (q5 (ls PyData.int) PyData.int PyData.int PyData.int PyData.int) t1.2) rfl (aI cI a0) rfl rfl (k__law_take h_t3)) rfl rfl (o_mulS h_t4)) (binX cI cI rfl rfl (o_mulS h_t5)) rfl rfl (o_adS h_t6)) rfl ?_))
  show wS _ [ac ((q5 (ls PyData.int) PyData.int PyData.int PyData.int PyData.int) t3.2), im ((tp PyData.int) far2), im (PyData.str long7)] _
  obtain ⟨t8, h_t8, h⟩ := bnd h
  obtain ⟨t9, h_t9, h⟩ := bnd h
  obtain ⟨t13, h_t13, h⟩ := bnd h
  refine w_seq ((w_if (b := t13) (torX (tnot (bang (callI (aI (callI (aI (vI rfl) a0) rfl (k_is_line_plan h_t8)) (aI cI a0)) rfl (k__law_same h_t9)))) h_t13 (fun _ _ hq => (by obtain ⟨t10, h_t10, hq⟩ := bnd hq; obtain ⟨t11, h_t11, hq⟩ := bnd hq; obtain ⟨t12, h_t12, hq⟩ := bnd hq; have hq := Option.some.inj hq; subst hq; exact (tnot (bang (callI (aI (callI (aI (binX (vI rfl) (tupI (aI cI a0) (Nat.le_of_ble_eq_true rfl)) rfl rfl (o_catT (f := PyData.int) (l := far2) (m := [(46 : Int)]) h_t10)) a0) rfl (k_is_line_plan h_t11)) (aI cI a0)) rfl (k__law_same h_t12))))))) (fun hc14 => ?_) (fun hc14 => ?_)))
  · rw [if1 hc14] at h
    cases h
    refine (w_ret cI ?_)
    exact ⟨rfl, rfl⟩
  · rw [if0 hc14] at h
    refine w_nx ?_
    show wS _ [ac ((q5 (ls PyData.int) PyData.int PyData.int PyData.int PyData.int) t3.2), im ((tp PyData.int) far2), im (PyData.str long7)] _
    obtain ⟨t15, h_t15, h⟩ := bnd h
    obtain ⟨t16, h_t16, h⟩ := bnd h
    obtain ⟨t17, h_t17, h⟩ := bnd h
    obtain ⟨t18, h_t18, h⟩ := bnd h
    refine w_seq ((w_if (b := (!t18)) (tnot (bang (callI (aI (callI (aI (binX (vI rfl) (binX cI cI rfl rfl (o_mulS h_t15)) rfl rfl (o_adS h_t16)) a0) rfl (k_is_track h_t17)) (aI cI a0)) rfl (k__law_same h_t18)))) (fun hc19 => ?_) (fun hc19 => ?_)))
    · rw [if1 hc19] at h
      cases h
      refine (w_ret cI ?_)
      exact ⟨rfl, rfl⟩
    · rw [if0 hc19] at h
      refine w_nx ?_
      show wS _ [ac ((q5 (ls PyData.int) PyData.int PyData.int PyData.int PyData.int) t3.2), im ((tp PyData.int) far2), im (PyData.str long7)] _
      obtain ⟨t20, h_t20, h⟩ := bnd h
      obtain ⟨t21, h_t21, h⟩ := bnd h
      obtain ⟨t22, h_t22, h⟩ := bnd h
      obtain ⟨t23, h_t23, h⟩ := bnd h
      cases h
      refine w_seq ((w_ret (callI (aI (callI (aI (binX (vI rfl) (binX cI cI rfl rfl (o_mulS h_t20)) rfl rfl (o_adS h_t21)) a0) rfl (k_is_track h_t22)) (aI cI a0)) rfl (k__law_same h_t23)) ?_))
      exact ⟨rfl, rfl⟩
theorem k__law_bent_holds {hand : ((List Int) × Int × Int × Int × Int)} {found : (List Int)} {r : (Bool × ((List Int) × Int × Int × Int × Int))} (h : f_w_bent_holds hand found = some r) : F__law_bent_holds ((q5 (ls PyData.int) PyData.int PyData.int PyData.int PyData.int) hand) [(tp PyData.int) found] = some (.im (PyData.bool r.1), (q5 (ls PyData.int) PyData.int PyData.int PyData.int PyData.int) r.2) := by
  unfold f_w_bent_holds at h
  refine t_fnMS (enc := PyData.bool) (es := (q5 (ls PyData.int) PyData.int PyData.int PyData.int PyData.int)) rfl ?_
  show wS _ [ac ((q5 (ls PyData.int) PyData.int PyData.int PyData.int PyData.int) hand), im ((tp PyData.int) found), none, none, none] _
  obtain ⟨t1, h_t1, h⟩ := bnd h
  obtain ⟨p_2, h_p_2, h⟩ := bnd h
  refine w_seq ((t_set (f := PyData.int) (v := t1.1) (w := p_2) h_p_2 (mI (c := (q5 (ls PyData.int) PyData.int PyData.int PyData.int PyData.int) hand) rfl (aI (cbX (dX (vI rfl) d0 rfl) (o_lenT (f := PyData.int) (l := found))) a0) rfl rfl (k__law_take h_t1)) rfl ?_))
  show wS _ [ac ((q5 (ls PyData.int) PyData.int PyData.int PyData.int PyData.int) t1.2), im ((tp PyData.int) found), im (PyData.int p_2), none, none] _
  obtain ⟨t3, h_t3, h⟩ := bnd h
  obtain ⟨t4, h_t4, h⟩ := bnd h
  obtain ⟨bent6, h_t5, h⟩ := bnd h
  refine w_seq ((t_set (f := (tp PyData.int)) (v := bent6) (w := bent6) rfl (binX (binX (cutTX (f := PyData.int) (l := found) (vI rfl) oN (oA (vI rfl))) (tupI (aI (binX (mI (c := (q5 (ls PyData.int) PyData.int PyData.int PyData.int PyData.int) t1.2) rfl (aI (binX (vI rfl) cI rfl rfl e_add) a0) rfl rfl (k__law_take h_t3)) cI rfl rfl e_sub) a0) (Nat.le_of_ble_eq_true rfl)) rfl rfl (o_catT (f := PyData.int) (l := (cutD found none (some p_2))) (m := [(t3.1 - (1 : Int))]) h_t4)) (cutTX (f := PyData.int) (l := found) (vI rfl) (oA (binX (vI rfl) cI rfl rfl e_add)) oN) rfl rfl (o_catT (f := PyData.int) (l := t4) (m := (cutD found (some (p_2 + (1 : Int))) none)) h_t5)) rfl ?_))
  show wS _ [ac ((q5 (ls PyData.int) PyData.int PyData.int PyData.int PyData.int) t3.2), im ((tp PyData.int) found), im (PyData.int p_2), im ((tp PyData.int) bent6), none] _
  obtain ⟨t7, h_t7, h⟩ := bnd h
  refine w_seq ((w_if (b := t7) (bang (callI (aI (vI rfl) a0) rfl (k__law_is_plan h_t7))) (fun hc8 => ?_) (fun hc8 => ?_)))
  · rw [if1 hc8] at h
    obtain ⟨t9, h_t9, h⟩ := bnd h
    cases h
    refine (w_ret (callI (aI (vI rfl) a0) rfl (k__law_plan_holds h_t9)) ?_)
    exact ⟨rfl, rfl⟩
  · rw [if0 hc8] at h
    refine w_nx ?_
    show wS _ [ac ((q5 (ls PyData.int) PyData.int PyData.int PyData.int PyData.int) t3.2), im ((tp PyData.int) found), im (PyData.int p_2), im ((tp PyData.int) bent6), none] _
    obtain ⟨t10, h_t10, h⟩ := bnd h
    obtain ⟨t11, h_t11, h⟩ := bnd h
    refine w_seq ((w_if (b := (!t11)) (tnot (bang (callI (aI (callI (aI (vI rfl) a0) rfl (k_is_line_plan h_t10)) (aI cI a0)) rfl (k__law_same h_t11)))) (fun hc12 => ?_) (fun hc12 => ?_)))
    · rw [if1 hc12] at h
      cases h
      refine (w_ret cI ?_)
      exact ⟨rfl, rfl⟩
    · rw [if0 hc12] at h
      refine w_nx ?_
      show wS _ [ac ((q5 (ls PyData.int) PyData.int PyData.int PyData.int PyData.int) t3.2), im ((tp PyData.int) found), im (PyData.int p_2), im ((tp PyData.int) bent6), none] _
      obtain ⟨is13, h_is13, h⟩ := bnd h
      obtain ⟨t17, h_t17, h⟩ := bnd h
      cases h
      refine w_seq ((w_ret (binX (lcX (enc := PyData.int) (encB := PyData.int) h_t17 (rng1I cI h_is13) rfl (fun x14 _ => ⟨_, rfl, rfl, fun _ hq => (by obtain ⟨t15, h_t15, hq⟩ := bnd hq; obtain ⟨t16, h_t16, hq⟩ := bnd hq; have hq := Option.some.inj hq; subst hq; exact (bang (binX (callI (aI (vI rfl) (aI (vI rfl) a0)) rfl (k__law_ask h_t15)) (tupI (aI cI (aI cI (aI (negI cI) a0))) (Nat.le_of_ble_eq_true rfl)) rfl rfl (bD_ok h_t16)))), fun _ _ hq => (by have hq := Option.some.inj hq; subst hq; exact ⟨_, (vI rfl), rfl, rfl⟩)⟩)) (lstX a0 (Nat.le_of_ble_eq_true rfl)) rfl rfl (o_eq (f := (ls PyData.int)) (by decide) t17 [])) ?_))
      exact ⟨rfl, rfl⟩
theorem k_law {script : (List Int)} {r : Bool} (h : f_law script = some r) : F_law [(ls PyData.int) script] = some (.im (PyData.bool r)) := by
  unfold f_law at h
  refine t_fnI (enc := PyData.bool) rfl ?_
  show wS _ [im ((ls PyData.int) script), none, none, none, none, none, none, none, none, none] _
  obtain ⟨t1, h_t1, h⟩ := bnd h
  refine w_seq ((w_setA (callA (aI (vI rfl) a0) rfl (k__law_hand h_t1)) rfl ?_))
  show wS _ [im ((ls PyData.int) script), ac ((q5 (ls PyData.int) PyData.int PyData.int PyData.int PyData.int) t1), none, none, none, none, none, none, none, none] _
  obtain ⟨t2, h_t2, h⟩ := bnd h
  obtain ⟨size3, h_size3, h⟩ := bnd h
  refine w_seq ((t_set (f := PyData.int) (v := t2.1) (w := size3) h_size3 (mI (c := (q5 (ls PyData.int) PyData.int PyData.int PyData.int PyData.int) t1) rfl (aI cI a0) rfl rfl (k__law_take h_t2)) rfl ?_))
  show wS _ [im ((ls PyData.int) script), ac ((q5 (ls PyData.int) PyData.int PyData.int PyData.int PyData.int) t2.2), im (PyData.int size3), none, none, none, none, none, none, none] _
  obtain ⟨t4, h_t4, h⟩ := bnd h
  obtain ⟨wider5, h_wider5, h⟩ := bnd h
  refine w_seq ((t_set (f := PyData.int) (v := t4.1) (w := wider5) h_wider5 (mI (c := (q5 (ls PyData.int) PyData.int PyData.int PyData.int PyData.int) t2.2) rfl (aI cI a0) rfl rfl (k__law_take h_t4)) rfl ?_))
  show wS _ [im ((ls PyData.int) script), ac ((q5 (ls PyData.int) PyData.int PyData.int PyData.int PyData.int) t4.2), im (PyData.int size3), im (PyData.int wider5), none, none, none, none, none, none] _
  refine t_join (fun (size_ : Int) e => e = [im ((ls PyData.int) script), ac ((q5 (ls PyData.int) PyData.int PyData.int PyData.int PyData.int) t4.2), im (PyData.int size_), im (PyData.int wider5), none, none, none, none, none, none]) (fun (size_ : Int) => f_law_J1 t4.2 wider5 size_) (t := r) (fun size_ e he h => ?_) ?_
  · subst he
    replace h : f_law_J1 t4.2 wider5 size_ = some r := h
    unfold f_law_J1 at h
    show wS _ [im ((ls PyData.int) script), ac ((q5 (ls PyData.int) PyData.int PyData.int PyData.int PyData.int) t4.2), im (PyData.int size_), im (PyData.int wider5), none, none, none, none, none, none] _
    refine t_join (fun (s_ : ((List Int) × Int × Int × Int × Int) × Int) e => e = [im ((ls PyData.int) script), ac ((q5 (ls PyData.int) PyData.int PyData.int PyData.int PyData.int) s_.1), im (PyData.int s_.2), im (PyData.int wider5), none, none, none, none, none, none]) (fun (s_ : ((List Int) × Int × Int × Int × Int) × Int) => f_law_J2 wider5 s_.1 s_.2) (t := r) (fun s_ e he h => ?_) ?_
    · subst he
      obtain ⟨hand_, size_⟩ := s_
      replace h : f_law_J2 wider5 hand_ size_ = some r := h
      unfold f_law_J2 at h
      show wS _ [im ((ls PyData.int) script), ac ((q5 (ls PyData.int) PyData.int PyData.int PyData.int PyData.int) hand_), im (PyData.int size_), im (PyData.int wider5), none, none, none, none, none, none] _
      obtain ⟨t150, h_t150, h⟩ := bnd h
      obtain ⟨found151, h_found151, h⟩ := bnd h
      refine w_seq ((t_set (f := (tp PyData.int)) (v := t150.1) (w := found151) h_found151 (mI (c := (q5 (ls PyData.int) PyData.int PyData.int PyData.int PyData.int) hand_) rfl (aI (vI rfl) a0) rfl rfl (k__law_plan h_t150)) rfl ?_))
      show wS _ [im ((ls PyData.int) script), ac ((q5 (ls PyData.int) PyData.int PyData.int PyData.int PyData.int) t150.2), im (PyData.int size_), im (PyData.int wider5), im ((tp PyData.int) found151), none, none, none, none, none] _
      obtain ⟨t152, h_t152, h⟩ := bnd h
      obtain ⟨t153, h_t153, h⟩ := bnd h
      obtain ⟨small154, h_small154, h⟩ := bnd h
      refine w_seq ((t_set (f := (tp PyData.int)) (v := t153.1) (w := small154) h_small154 (mI2 (c0 := (q5 (ls PyData.int) PyData.int PyData.int PyData.int PyData.int) t150.2) (c := (q5 (ls PyData.int) PyData.int PyData.int PyData.int PyData.int) t152.2) rfl (aI (mI (c := (q5 (ls PyData.int) PyData.int PyData.int PyData.int PyData.int) t150.2) rfl (aI cI a0) rfl rfl (k__law_take h_t152)) a0) rfl rfl (k__law_plan h_t153)) rfl ?_))
      show wS _ [im ((ls PyData.int) script), ac ((q5 (ls PyData.int) PyData.int PyData.int PyData.int PyData.int) t153.2), im (PyData.int size_), im (PyData.int wider5), im ((tp PyData.int) found151), im ((tp PyData.int) small154), none, none, none, none] _
      obtain ⟨t155, h_t155, h⟩ := bnd h
      obtain ⟨t157, h_t157, h⟩ := bnd h
      refine w_seq ((w_if (b := t157) (torX (tnot (bang (callI (aI (vI rfl) a0) rfl (k__law_plan_holds h_t155)))) h_t157 (fun _ _ hq => (by obtain ⟨t156, h_t156, hq⟩ := bnd hq; have hq := Option.some.inj hq; subst hq; exact (tnot (bang (callI (aI (vI rfl) a0) rfl (k__law_plan_holds h_t156))))))) (fun hc158 => ?_) (fun hc158 => ?_)))
      · rw [if1 hc158] at h
        cases h
        refine (w_ret cI ?_)
        exact rfl
      · rw [if0 hc158] at h
        refine w_nx ?_
        show wS _ [im ((ls PyData.int) script), ac ((q5 (ls PyData.int) PyData.int PyData.int PyData.int PyData.int) t153.2), im (PyData.int size_), im (PyData.int wider5), im ((tp PyData.int) found151), im ((tp PyData.int) small154), none, none, none, none] _
        obtain ⟨rest159, h_rest159, h⟩ := bnd h
        refine w_seq ((t_set (f := (tp PyData.int)) (v := (cutD found151 none (some (13 : Int)))) (w := rest159) h_rest159 (cutTX (f := PyData.int) (l := found151) (vI rfl) oN (oA cI)) rfl ?_))
        show wS _ [im ((ls PyData.int) script), ac ((q5 (ls PyData.int) PyData.int PyData.int PyData.int PyData.int) t153.2), im (PyData.int size_), im (PyData.int wider5), im ((tp PyData.int) found151), im ((tp PyData.int) small154), im ((tp PyData.int) rest159), none, none, none] _
        obtain ⟨t160, h_t160, h⟩ := bnd h
        obtain ⟨t161, h_t161, h⟩ := bnd h
        obtain ⟨t162, h_t162, h⟩ := bnd h
        obtain ⟨t164, h_t164, h⟩ := bnd h
        obtain ⟨t165, h_t165, h⟩ := bnd h
        obtain ⟨due167, h_t166, h⟩ := bnd h
        refine w_seq ((t_set (f := (tp PyData.int)) (v := due167) (w := due167) rfl (callI (aA (binX (binX (callA (aI (vI rfl) a0) rfl (k__law_reads h_t160)) (lstX (aI cI a0) (Nat.le_of_ble_eq_true rfl)) rfl rfl (o_catL (f := PyData.int) (l := t160) (m := [(1 : Int)]) h_t161)) (lcX (enc := PyData.int) (encB := PyData.int) h_t164 (seqAX (f := PyData.int) (l := (cutD t162 (some (1 : Int)) none)) (cutLX (f := PyData.int) (l := t162) (callA (aI (vI rfl) a0) rfl (k__law_reads h_t162)) (oA cI) oN rfl)) rfl (fun x163 _ => ⟨_, rfl, rfl, fun _ hq => (by have hq := Option.some.inj hq; subst hq; rfl), fun _ _ hq => (by have hq := Option.some.inj hq; subst hq; exact ⟨_, (binX (vI rfl) cI rfl rfl e_add), rfl, rfl⟩)⟩)) rfl rfl (o_catL (f := PyData.int) (l := t161) (m := t164) h_t165)) a0) rfl (k__law_by_reads h_t166)) rfl ?_))
        show wS _ [im ((ls PyData.int) script), ac ((q5 (ls PyData.int) PyData.int PyData.int PyData.int PyData.int) t153.2), im (PyData.int size_), im (PyData.int wider5), im ((tp PyData.int) found151), im ((tp PyData.int) small154), im ((tp PyData.int) rest159), im ((tp PyData.int) due167), none, none] _
        obtain ⟨t168, h_t168, h⟩ := bnd h
        obtain ⟨t169, h_t169, h⟩ := bnd h
        refine w_seq ((w_if (b := (!t169)) (tnot (bang (callI (aI (callI (aI (vI rfl) (aI (vI rfl) a0)) rfl (k_joined_plans h_t168)) (aI (vI rfl) a0)) rfl (k__law_same h_t169)))) (fun hc170 => ?_) (fun hc170 => ?_)))
        · rw [if1 hc170] at h
          cases h
          refine (w_ret cI ?_)
          exact rfl
        · rw [if0 hc170] at h
          refine w_nx ?_
          show wS _ [im ((ls PyData.int) script), ac ((q5 (ls PyData.int) PyData.int PyData.int PyData.int PyData.int) t153.2), im (PyData.int size_), im (PyData.int wider5), im ((tp PyData.int) found151), im ((tp PyData.int) small154), im ((tp PyData.int) rest159), im ((tp PyData.int) due167), none, none] _
          obtain ⟨t171, h_t171, h⟩ := bnd h
          obtain ⟨t172, h_t172, h⟩ := bnd h
          refine w_seq ((w_if (b := (!t172)) (tnot (bang (callI (aI (callKI a0 (aI (vI rfl) (aI (vI rfl) a0)) rfl (k_joined_plans h_t171)) (aI (vI rfl) a0)) rfl (k__law_same h_t172)))) (fun hc173 => ?_) (fun hc173 => ?_)))
          · rw [if1 hc173] at h
            cases h
            refine (w_ret cI ?_)
            exact rfl
          · rw [if0 hc173] at h
            refine w_nx ?_
            show wS _ [im ((ls PyData.int) script), ac ((q5 (ls PyData.int) PyData.int PyData.int PyData.int PyData.int) t153.2), im (PyData.int size_), im (PyData.int wider5), im ((tp PyData.int) found151), im ((tp PyData.int) small154), im ((tp PyData.int) rest159), im ((tp PyData.int) due167), none, none] _
            obtain ⟨t174, h_t174, h⟩ := bnd h
            obtain ⟨t175, h_t175, h⟩ := bnd h
            obtain ⟨sign176, h_sign176, h⟩ := bnd h
            refine w_seq ((t_set (f := PyData.str) (v := t175.1) (w := sign176) h_sign176 (mI2 (c0 := (q5 (ls PyData.int) PyData.int PyData.int PyData.int PyData.int) t153.2) (c := (q5 (ls PyData.int) PyData.int PyData.int PyData.int PyData.int) t174.2) rfl (aI (mI (c := (q5 (ls PyData.int) PyData.int PyData.int PyData.int PyData.int) t153.2) rfl (aI cI a0) rfl rfl (k__law_take h_t174)) a0) rfl rfl (k__law_sign h_t175)) rfl ?_))
            show wS _ [im ((ls PyData.int) script), ac ((q5 (ls PyData.int) PyData.int PyData.int PyData.int PyData.int) t175.2), im (PyData.int size_), im (PyData.int wider5), im ((tp PyData.int) found151), im ((tp PyData.int) small154), im ((tp PyData.int) rest159), im ((tp PyData.int) due167), im (PyData.str sign176), none] _
            obtain ⟨t177, h_t177, h⟩ := bnd h
            obtain ⟨t182, h_t182, h⟩ := bnd h
            refine w_seq ((w_if (b := t182.1) (torM (fun s_ => [im ((ls PyData.int) script), ac ((q5 (ls PyData.int) PyData.int PyData.int PyData.int PyData.int) s_), im (PyData.int size_), im (PyData.int wider5), im ((tp PyData.int) found151), im ((tp PyData.int) small154), im ((tp PyData.int) rest159), im ((tp PyData.int) due167), im (PyData.str sign176), none]) (p := (!t177)) (tnot (bang (callI (aI (vI rfl) a0) rfl (k__law_sign_holds h_t177)))) rfl h_t182 (fun _ _ _ hq => (by obtain ⟨t178, h_t178, hq⟩ := bnd hq; obtain ⟨t179, h_t179, hq⟩ := bnd hq; obtain ⟨t181, h_t181, hq⟩ := bnd hq; obtain ⟨hq, hq2⟩ := Prod.mk.inj (Option.some.inj hq); subst hq; subst hq2; exact (torX (tnot (bang (callI (aI (mI (c := (q5 (ls PyData.int) PyData.int PyData.int PyData.int PyData.int) t175.2) rfl (aI (vI rfl) a0) rfl rfl (k__law_spoilt h_t178)) a0) rfl (k__law_sign_holds h_t179)))) h_t181 (fun _ _ hq => (by obtain ⟨t180, h_t180, hq⟩ := bnd hq; have hq := Option.some.inj hq; subst hq; exact (tnot (bang (callI (aI cI a0) rfl (k__law_sign_holds h_t180)))))))))) (fun hc183 => ?_) (fun hc183 => ?_)))
            · rw [if1 hc183] at h
              cases h
              refine (w_ret cI ?_)
              exact rfl
            · rw [if0 hc183] at h
              refine w_nx ?_
              show wS _ [im ((ls PyData.int) script), ac ((q5 (ls PyData.int) PyData.int PyData.int PyData.int PyData.int) t182.2), im (PyData.int size_), im (PyData.int wider5), im ((tp PyData.int) found151), im ((tp PyData.int) small154), im ((tp PyData.int) rest159), im ((tp PyData.int) due167), im (PyData.str sign176), none] _
              obtain ⟨t184, h_t184, h⟩ := bnd h
              obtain ⟨t185, h_t185, h⟩ := bnd h
              refine w_seq ((w_if (b := (!t185)) (tnot (bang (callI (aI (binX (vI rfl) cI rfl rfl (o_adS h_t184)) a0) rfl (k__law_sign_holds h_t185)))) (fun hc186 => ?_) (fun hc186 => ?_)))
              · rw [if1 hc186] at h
                cases h
                refine (w_ret cI ?_)
                exact rfl
              · rw [if0 hc186] at h
                refine w_nx ?_
                show wS _ [im ((ls PyData.int) script), ac ((q5 (ls PyData.int) PyData.int PyData.int PyData.int PyData.int) t182.2), im (PyData.int size_), im (PyData.int wider5), im ((tp PyData.int) found151), im ((tp PyData.int) small154), im ((tp PyData.int) rest159), im ((tp PyData.int) due167), im (PyData.str sign176), none] _
                obtain ⟨t188, h_t188, h⟩ := bnd h
                refine w_seq ((w_if (b := t188.1) (tandM (fun s_ => [im ((ls PyData.int) script), ac ((q5 (ls PyData.int) PyData.int PyData.int PyData.int PyData.int) s_), im (PyData.int size_), im (PyData.int wider5), im ((tp PyData.int) found151), im ((tp PyData.int) small154), im ((tp PyData.int) rest159), im ((tp PyData.int) due167), im (PyData.str sign176), none]) (p := (decide ((0 : Int) < size_))) (bang (binX (vI rfl) cI rfl rfl e_qgt)) rfl h_t188 (fun _ _ _ hq => (by obtain ⟨t187, h_t187, hq⟩ := bnd hq; obtain ⟨hq, hq2⟩ := Prod.mk.inj (Option.some.inj hq); subst hq; subst hq2; exact (tnot (bang (mI (c := (q5 (ls PyData.int) PyData.int PyData.int PyData.int PyData.int) t182.2) rfl (aI (vI rfl) a0) rfl rfl (k__law_bent_holds h_t187))))))) (fun hc189 => ?_) (fun hc189 => ?_)))
                · rw [if1 hc189] at h
                  cases h
                  refine (w_ret cI ?_)
                  exact rfl
                · rw [if0 hc189] at h
                  refine w_nx ?_
                  show wS _ [im ((ls PyData.int) script), ac ((q5 (ls PyData.int) PyData.int PyData.int PyData.int PyData.int) t188.2), im (PyData.int size_), im (PyData.int wider5), im ((tp PyData.int) found151), im ((tp PyData.int) small154), im ((tp PyData.int) rest159), im ((tp PyData.int) due167), im (PyData.str sign176), none] _
                  obtain ⟨t190, h_t190, h⟩ := bnd h
                  obtain ⟨t191, h_t191, h⟩ := bnd h
                  refine w_seq ((w_if (b := (!t191)) (tnot (bang (callI (aI (vI rfl) (aI (mI (c := (q5 (ls PyData.int) PyData.int PyData.int PyData.int PyData.int) t188.2) rfl (aI cI a0) rfl rfl (k__law_take h_t190)) a0)) rfl (k__law_refused h_t191)))) (fun hc192 => ?_) (fun hc192 => ?_)))
                  · rw [if1 hc192] at h
                    cases h
                    refine (w_ret cI ?_)
                    exact rfl
                  · rw [if0 hc192] at h
                    refine w_nx ?_
                    show wS _ [im ((ls PyData.int) script), ac ((q5 (ls PyData.int) PyData.int PyData.int PyData.int PyData.int) t190.2), im (PyData.int size_), im (PyData.int wider5), im ((tp PyData.int) found151), im ((tp PyData.int) small154), im ((tp PyData.int) rest159), im ((tp PyData.int) due167), im (PyData.str sign176), none] _
                    obtain ⟨t194, h_t194, h⟩ := bnd h
                    refine w_seq ((w_if (b := t194.1) (tandM (fun s_ => [im ((ls PyData.int) script), ac ((q5 (ls PyData.int) PyData.int PyData.int PyData.int PyData.int) s_), im (PyData.int size_), im (PyData.int wider5), im ((tp PyData.int) found151), im ((tp PyData.int) small154), im ((tp PyData.int) rest159), im ((tp PyData.int) due167), im (PyData.str sign176), none]) (p := (decide (wider5 = (3 : Int)))) (bang (binX (vI rfl) cI rfl rfl e_eq)) rfl h_t194 (fun _ _ _ hq => (by obtain ⟨t193, h_t193, hq⟩ := bnd hq; obtain ⟨hq, hq2⟩ := Prod.mk.inj (Option.some.inj hq); subst hq; subst hq2; exact (tnot (bang (mI (c := (q5 (ls PyData.int) PyData.int PyData.int PyData.int PyData.int) t190.2) rfl a0 rfl rfl (k__law_far_told h_t193))))))) (fun hc195 => ?_) (fun hc195 => ?_)))
                    · rw [if1 hc195] at h
                      cases h
                      refine (w_ret cI ?_)
                      exact rfl
                    · rw [if0 hc195] at h
                      refine w_nx ?_
                      show wS _ [im ((ls PyData.int) script), ac ((q5 (ls PyData.int) PyData.int PyData.int PyData.int PyData.int) t194.2), im (PyData.int size_), im (PyData.int wider5), im ((tp PyData.int) found151), im ((tp PyData.int) small154), im ((tp PyData.int) rest159), im ((tp PyData.int) due167), im (PyData.str sign176), none] _
                      obtain ⟨t196, h_t196, h⟩ := bnd h
                      obtain ⟨t197, h_t197, h⟩ := bnd h
                      obtain ⟨t198, h_t198, h⟩ := bnd h
                      refine w_seq ((w_if (b := (!t198)) (tnot (bang (callI (aI (callKI a0 (aI (vI rfl) a0) rfl (k_track_of h_t196)) (aI (callI (aI (vI rfl) a0) rfl (k_track_of h_t197)) a0)) rfl (k__law_same h_t198)))) (fun hc199 => ?_) (fun hc199 => ?_)))
                      · rw [if1 hc199] at h
                        cases h
                        refine (w_ret cI ?_)
                        exact rfl
                      · rw [if0 hc199] at h
                        refine w_nx ?_
                        show wS _ [im ((ls PyData.int) script), ac ((q5 (ls PyData.int) PyData.int PyData.int PyData.int PyData.int) t194.2), im (PyData.int size_), im (PyData.int wider5), im ((tp PyData.int) found151), im ((tp PyData.int) small154), im ((tp PyData.int) rest159), im ((tp PyData.int) due167), im (PyData.str sign176), none] _
                        obtain ⟨t200, h_t200, h⟩ := bnd h
                        obtain ⟨t201, h_t201, h⟩ := bnd h
                        obtain ⟨t202, h_t202, h⟩ := bnd h
                        refine w_seq ((w_if (b := (!t202)) (tnot (bang (callI (aI (callKI a0 (aI (vI rfl) a0) rfl (k_turns_of h_t200)) (aI (callI (aI (vI rfl) a0) rfl (k_turns_of h_t201)) a0)) rfl (k__law_same h_t202)))) (fun hc203 => ?_) (fun hc203 => ?_)))
                        · rw [if1 hc203] at h
                          cases h
                          refine (w_ret cI ?_)
                          exact rfl
                        · rw [if0 hc203] at h
                          refine w_nx ?_
                          show wS _ [im ((ls PyData.int) script), ac ((q5 (ls PyData.int) PyData.int PyData.int PyData.int PyData.int) t194.2), im (PyData.int size_), im (PyData.int wider5), im ((tp PyData.int) found151), im ((tp PyData.int) small154), im ((tp PyData.int) rest159), im ((tp PyData.int) due167), im (PyData.str sign176), none] _
                          obtain ⟨t204, h_t204, h⟩ := bnd h
                          obtain ⟨t205, h_t205, h⟩ := bnd h
                          obtain ⟨t208, h_t208, h⟩ := bnd h
                          refine w_seq ((w_if (b := t208) (torX (tnot (bang (callI (aI (callKI a0 (aI (vI rfl) a0) rfl (k_is_line_plan h_t204)) (aI cI a0)) rfl (k__law_same h_t205)))) h_t208 (fun _ _ hq => (by obtain ⟨t206, h_t206, hq⟩ := bnd hq; obtain ⟨t207, h_t207, hq⟩ := bnd hq; have hq := Option.some.inj hq; subst hq; exact (tnot (bang (callI (aI (callKI a0 (aI (vI rfl) a0) rfl (k_is_track h_t206)) (aI cI a0)) rfl (k__law_same h_t207))))))) (fun hc209 => ?_) (fun hc209 => ?_)))
                          · rw [if1 hc209] at h
                            cases h
                            refine (w_ret cI ?_)
                            exact rfl
                          · rw [if0 hc209] at h
                            refine w_nx ?_
                            show wS _ [im ((ls PyData.int) script), ac ((q5 (ls PyData.int) PyData.int PyData.int PyData.int PyData.int) t194.2), im (PyData.int size_), im (PyData.int wider5), im ((tp PyData.int) found151), im ((tp PyData.int) small154), im ((tp PyData.int) rest159), im ((tp PyData.int) due167), im (PyData.str sign176), none] _
                            obtain ⟨t210, h_t210, h⟩ := bnd h
                            obtain ⟨t211, h_t211, h⟩ := bnd h
                            obtain ⟨t212, h_t212, h⟩ := bnd h
                            refine w_seq ((w_if (b := (!t212)) (tnot (bang (callI (aI (callKI a0 (aI (callI (aI (vI rfl) a0) rfl (k_mirrored h_t210)) a0) rfl (k_mirrored h_t211)) (aI (vI rfl) a0)) rfl (k__law_same h_t212)))) (fun hc213 => ?_) (fun hc213 => ?_)))
                            · rw [if1 hc213] at h
                              cases h
                              refine (w_ret cI ?_)
                              exact rfl
                            · rw [if0 hc213] at h
                              refine w_nx ?_
                              show wS _ [im ((ls PyData.int) script), ac ((q5 (ls PyData.int) PyData.int PyData.int PyData.int PyData.int) t194.2), im (PyData.int size_), im (PyData.int wider5), im ((tp PyData.int) found151), im ((tp PyData.int) small154), im ((tp PyData.int) rest159), im ((tp PyData.int) due167), im (PyData.str sign176), none] _
                              obtain ⟨t214, h_t214, h⟩ := bnd h
                              obtain ⟨t215, h_t215, h⟩ := bnd h
                              obtain ⟨t216, h_t216, h⟩ := bnd h
                              cases h
                              refine w_seq ((w_ret (callI (aI (callKI a0 (aI (callI (aI (vI rfl) a0) rfl (k_track_of h_t214)) a0) rfl (k_bases_from h_t215)) (aI (vI rfl) a0)) rfl (k__law_same h_t216)) ?_))
                              exact rfl
    · refine ((w_if (b := (decide (wider5 = (2 : Int)))) (bang (binX (vI rfl) cI rfl rfl e_eq)) (fun hc147 => ?_) (fun hc147 => ?_)))
      · rw [if1 hc147] at h
        obtain ⟨t217, h_t217, h⟩ := bnd h
        obtain ⟨size218, h_size218, h⟩ := bnd h
        refine (t_set (f := PyData.int) (v := ((10 : Int) + t217.1)) (w := size218) h_size218 (binX cI (mI (c := (q5 (ls PyData.int) PyData.int PyData.int PyData.int PyData.int) t4.2) rfl (aI cI a0) rfl rfl (k__law_take h_t217)) rfl rfl e_add) rfl ?_)
        exact ⟨(t217.2, size218), rfl, h⟩
      · rw [if0 hc147] at h
        refine w_nx ?_
        exact ⟨(t4.2, size_), rfl, h⟩
  · refine ((w_if (b := (decide (wider5 = (1 : Int)))) (bang (binX (vI rfl) cI rfl rfl e_eq)) (fun hc6 => ?_) (fun hc6 => ?_)))
    · rw [if1 hc6] at h
      obtain ⟨size219, h_size219, h⟩ := bnd h
      refine (t_set (f := PyData.int) (v := (20 : Int)) (w := size219) h_size219 cI rfl ?_)
      exact ⟨size219, rfl, h⟩
    · rw [if0 hc6] at h
      refine w_nx ?_
      exact ⟨size3, rfl, h⟩
end K24
namespace DL
open PySem PySem.Spec PyProof.Rows L2
def sh (w : Nat) (f : Int) (row : List Int) : Int := if w ≤ row.length ∧ f ≤ gv row w then gv row w + 1 else f
def srow (w : Nat) (f : Int) (row : List Int) : List Int := (row.filter fun m => decide (sh w f row ≤ m)) ++ [sh w f row]
section
variable (W : Nat → Nat) (F : Nat → Int) (p : Nat → Nat) (n : Nat)
def rwo (v : Nat) (mem : List Int) : List Int := srow (W v) (F v) (downI mem)
/-- what lies below u once k versions are gone through, from the last one on -/
def bl : Nat → Nat → List Int
  | 0, _ => []
  | k + 1, u => if u = p (n - k) then bl k u ++ rwo W F (n - k) (bl k (n - k)) else bl k u
def row (v : Nat) : List Int := rwo W F v (bl W F p n (n - v) v)
end
end DL
namespace DL
open PySem PySem.Spec PyProof.Rows L2
def lx : List Int → List Int → Prop
  | [], _ => True
  | _ :: _, [] => False
  | x :: xs, y :: ys => x < y ∨ (x = y ∧ lx xs ys)
def ins (x : Int) : List Int → List Int
  | [] => [x]
  | y :: ys => if y ≤ x then x :: y :: ys else y :: ins x ys
def cnt (l : List Int) (s : Int) : Nat := (l.filter fun m => decide (s ≤ m)).length
end DL
namespace DL
open PySem PySem.Spec PyProof.Rows L2
abbrev Par (p : Nat → Nat) (n : Nat) : Prop := ∀ v, 1 ≤ v → v ≤ n → p v < v
section
variable (p : Nat → Nat) (h : Nat → Int)
/-- from u up to v nobody is higher than t -/
def opB (v : Nat) (t : Int) : Nat → Nat → Bool
  | 0, u => u == v
  | k + 1, u => u == v || (decide (v < u) && (decide (h (p u) ≤ t) && opB v t k (p u)))
def op (v : Nat) (t : Int) (u : Nat) : Bool := opB p h v t u u
end
section
variable {p : Nat → Nat} {h : Nat → Int} {n : Nat} (hp : Par p n)
include hp
theorem opB_more {v : Nat} {t : Int} : ∀ (u k : Nat), u ≤ n → u ≤ k → opB p h v t k u = opB p h v t u u := by
  intro u
  induction u using Nat.strongRecOn with
  | ind u ih =>
    intro k hu hk
    by_cases z : u = 0
    · subst z
      cases k with
      | zero => rfl
      | succ k =>
        show ((0 == v) || (decide (v < 0) && _)) = (0 == v)
        simp
    · obtain ⟨k, rfl⟩ : ∃ j, k = j + 1 := ⟨k - 1, by omega⟩
      obtain ⟨u, rfl⟩ : ∃ j, u = j + 1 := ⟨u - 1, by omega⟩
      have l := hp (u + 1) (by omega) hu
      show (_ || (_ && (_ && opB p h v t k (p (u + 1))))) = (_ || (_ && (_ && opB p h v t u (p (u + 1)))))
      rw [ih (p (u + 1)) l k (by omega) (by omega), ih (p (u + 1)) l u (by omega) (by omega)]
theorem op_eq {v u : Nat} {t : Int} (h1 : 1 ≤ u) (h2 : u ≤ n) : op p h v t u = (u == v || (decide (v < u) && (decide (h (p u) ≤ t) && op p h v t (p u)))) := by
  obtain ⟨u, rfl⟩ : ∃ j, u = j + 1 := ⟨u - 1, by omega⟩
  have l := hp (u + 1) (by omega) h2
  unfold op
  rw [← opB_more hp (h := h) (v := v) (t := t) (p (u + 1)) u (by omega) (by omega)]
  rfl
theorem op_ge {v t} : ∀ u, u ≤ n → op p h v t u = true → v ≤ u := by
  intro u
  cases u with
  | zero =>
    intro _ z
    have e : (0 == v) = true := z
    have := eq_of_beq e
    omega
  | succ u =>
    intro hu z
    rw [op_eq hp (by omega) hu, Bool.or_eq_true, Bool.and_eq_true] at z
    rcases z with z | z
    · have := eq_of_beq z
      omega
    · have := of_decide_eq_true z.1
      omega
end
end DL
namespace DL
open PySem PySem.Spec PyProof.Rows L2
end DL
namespace DL
open PySem PySem.Spec PyProof.Rows L2
section
variable {α β γ σ ρ τ X : Type}
theorem bs {o : Option α} {k : α → Option β} {a : α} {b : Option β} (h : o = some a) (q : k a = b) : o.bind k = b := by rw [h]; exact q
theorem bsX {o : Option α} {k : α → Option β} {a : α} {Q : β → Prop} (h : o = some a) (q : ∃ b, k a = some b ∧ Q b) : ∃ b, o.bind k = some b ∧ Q b := by
  rw [h]; exact q
theorem iT {c : Bool} {a b r : α} (h : c = true) (q : a = r) : (if c = true then a else b) = r := by rw [if_pos h]; exact q
theorem iF {c : Bool} {a b r : α} (h : c = false) (q : b = r) : (if c = true then a else b) = r := by rw [if_neg (by rw [h]; exact Bool.false_ne_true)]; exact q
theorem iTX {c : Bool} {a b : Option α} {Q : α → Prop} (h : c = true) (q : ∃ r, a = some r ∧ Q r) : ∃ r, (if c = true then a else b) = some r ∧ Q r := by rw [if_pos h]; exact q
theorem iFX {c : Bool} {a b : Option α} {Q : α → Prop} (h : c = false) (q : ∃ r, b = some r ∧ Q r) : ∃ r, (if c = true then a else b) = some r ∧ Q r := by rw [if_neg (by rw [h]; exact Bool.false_ne_true)]; exact q
theorem andT1 {q : Bool} {o : Option Bool} (h : o = some q) : andO true o = some q := h
/-- both tests fail -/
theorem orFF {p : Bool} {o : Option Bool} (h1 : p = false) (h : o = some false) : orO p o = some false := by rw [h1]; exact h
theorem andTT {p : Bool} {o : Option Bool} (h1 : p = true) (h : o = some true) : andO p o = some true := by rw [h1]; exact h
theorem ne_no {α : Type} [DecidableEq α] {a b : α} (h : a = b) : (!decide (a = b)) = false := by rw [decide_eq_true h]; rfl
theorem atI_nn {l : List α} {k : Nat} : atI l (k : Int) = l[k]? := atI_nat l k
theorem atI_at [Inhabited α] {l : List α} {k : Nat} (h : k < l.length) : atI l (k : Int) = some (gv l (k + 1)) := by
  rw [atI_nn, gv_get h]
theorem atI_rg {f : Nat → α} {n k : Nat} (h : k < n) : atI ((List.range n).map f) (k : Int) = some (f k) := by
  rw [atI_nn, List.getElem?_map, List.getElem?_range h]
  rfl
theorem l_rg [Inhabited α] (l : List α) : l = (List.range l.length).map fun k => gv l (k + 1) := by
  refine List.ext_getElem? fun i => ?_
  rw [List.getElem?_map]
  by_cases hi : i < l.length
  · rw [gv_get hi, List.getElem?_range hi]
    rfl
  · rw [List.getElem?_eq_none (by omega), List.getElem?_eq_none (by rw [List.length_range]; omega)]
    rfl
theorem zip_rg [Inhabited α] [Inhabited β] (l : List α) (m : List β) (h : l.length = m.length) : l.zip m = (List.range l.length).map fun k => (gv l (k + 1), gv m (k + 1)) := by
  refine List.ext_getElem? fun i => ?_
  rw [List.zip_eq_zipWith, List.getElem?_zipWith, List.getElem?_map]
  by_cases hi : i < l.length
  · rw [gv_get hi, gv_get (l := m) (by omega), List.getElem?_range hi]
    rfl
  · rw [List.getElem?_eq_none (l := l) (by omega), List.getElem?_eq_none (l := List.range l.length) (by rw [List.length_range]; omega)]
    rfl
theorem putO_at {l : List α} {k : Nat} {a : α} (h : k < l.length) : putO l (k : Int) a = some (l.set k a) := by
  unfold putO
  rw [ixN_nat h]
  rfl
theorem appO_ok {l : List α} {a : α} (h : l.length + 1 ≤ 16777216) : appO l a = some (l ++ [a]) := if_pos h
theorem catO_ok {l m : List α} (h : l.length + m.length ≤ 16777216) : catO l m = some (l ++ m) := if_pos h
theorem maxO1_ok {l : List Int} (h : l ≠ []) : maxO1 l = some (maxI l) := if_neg h
theorem rgC_n {m : Int} (h : 0 ≤ m) (h2 : m ≤ 1000001) : rgC m = true := decide_eq_true (by omega)
theorem rngO_v {v n : Nat} (h : n ≤ 1000000) (hv : v ≤ 1000000) : rngO (v : Int) ((n : Int) + 1) = some ((List.range (n + 1 - v)).map fun k => ((v + k : Nat) : Int)) := by
  unfold rngO
  rw [rgC_n (by omega) (by omega), rgC_n (by omega) (by omega), if_pos (show (true && true) = true from rfl), show ((n : Int) + 1 - (v : Int)).toNat = n + 1 - v by omega]
  congr 1
theorem rngO_1 {n : Nat} (h : n ≤ 1000000) : rngO 1 ((n : Int) + 1) = some ((List.range n).map fun k => ((k + 1 : Nat) : Int)) := by
  unfold rngO
  rw [rgC_n (m := 1) (by omega) (by omega), rgC_n (m := (n : Int) + 1) (by omega) (by omega), if_pos (show (true && true) = true from rfl), show ((n : Int) + 1 - 1).toNat = n by omega]
  congr 1
  refine List.map_congr_left fun k _ => ?_
  omega
theorem rngO_m {m : Nat} (h1 : 1 ≤ m) (h : m ≤ 1000000) : rngO 1 (m : Int) = some ((List.range (m - 1)).map fun k => ((k + 1 : Nat) : Int)) := by
  have z := rngO_1 (n := m - 1) (by omega)
  rwa [show ((m - 1 : Nat) : Int) + 1 = (m : Int) by omega] at z
theorem rng1O_n {n : Nat} (h : n ≤ 1000000) : rng1O (n : Int) = some ((List.range n).map fun (k : Nat) => (k : Int)) := by
  unfold rng1O
  rw [rgC_n (by omega) (by omega), if_pos rfl]
  rfl
theorem forS_n {n : Nat} {f : Nat → X} {S : Nat → σ} {body : X → σ → Option σ} (h : ∀ k, k < n → body (f k) (S k) = some (S (k + 1))) : forS body ((List.range n).map f) (S 0) = some (S n) := by
  have go : ∀ (m a : Nat), a + m = n → forS body ((List.range' a m).map f) (S a) = some (S n) := by
    intro m
    induction m with
    | zero => intro a ha; rw [show a = n by omega]; rfl
    | succ m ih =>
      intro a ha
      rw [List.range'_succ, List.map_cons]
      show (body (f a) (S a)).bind _ = _
      rw [h a (by omega)]
      exact ih (a + 1) (by omega)
  rw [List.range_eq_range']
  exact go n 0 (by omega)
theorem forS_J {n : Nat} {f : Nat → X} (J : Nat → σ → Prop) {body : X → σ → Option σ} {s : σ} (h0 : J 0 s) (h : ∀ k, k < n → ∀ s, J k s → ∃ s', body (f k) s = some s' ∧ J (k + 1) s') : ∃ s', forS body ((List.range n).map f) s = some s' ∧ J n s' := by
  have go : ∀ (m a : Nat) (s : σ), a + m = n → J a s → ∃ s', forS body ((List.range' a m).map f) s = some s' ∧ J n s' := by
    intro m
    induction m with
    | zero => intro a s ha hs; rw [show n = a by omega]; exact ⟨s, rfl, hs⟩
    | succ m ih =>
      intro a s ha hs
      obtain ⟨s1, h1, h2⟩ := h a (by omega) s hs
      obtain ⟨s2, h3, h4⟩ := ih (a + 1) s1 (by omega) h2
      rw [List.range'_succ, List.map_cons]
      refine ⟨s2, ?_, h4⟩
      show (body (f a) s).bind _ = _
      rw [h1]
      exact h3
  rw [List.range_eq_range']
  exact go n 0 s (by omega) h0
theorem forG_all {l : List X} {body : X → Unit → Option (Lp Unit ρ)} (h : ∀ x ∈ l, body x () = some (.nx ())) : forG body l () = some (.nx ()) := by
  induction l with
  | nil => rfl
  | cons a l ih =>
    show (body a ()).bind _ = _
    rw [h a List.mem_cons_self]
    exact ih fun x m => h x (List.mem_cons_of_mem _ m)
theorem thenA {l : List X} {body : X → Unit → Option (Lp Unit ρ)} {rt : ρ → Option τ} {k : Unit → Option τ} {b : Option τ} (h : ∀ x ∈ l, body x () = some (.nx ())) (q : k () = b) : thenL (forG body l ()) rt k = b := by
  rw [thenL_nx (forG_all h)]
  exact q
theorem thenR {n : Nat} {f : Nat → X} {body : X → Unit → Option (Lp Unit ρ)} {rt : ρ → Option τ} {k : Unit → Option τ} {b : Option τ} (h : ∀ k, k < n → body (f k) () = some (.nx ())) (q : k () = b) : thenL (forG body ((List.range n).map f) ()) rt k = b :=
  thenA (fun x m => by
    obtain ⟨k, hk, rfl⟩ := List.mem_map.mp m
    exact h k (List.mem_range.mp hk)) q
theorem whT {c : σ → Option Bool} {body : σ → Option σ} {N : Nat} {s s' : σ} {r : Option σ} (h : c s = some true) (h2 : body s = some s') (q : whS c body N s' = r) : whS c body (N + 1) s = r := by
  show (c s).bind _ = _
  rw [h]
  show (body s).bind _ = _
  rw [h2]
  exact q
theorem whF {c : σ → Option Bool} {body : σ → Option σ} {N : Nat} {s : σ} (h : c s = some false) : whS c body (N + 1) s = some s := by
  show (c s).bind _ = _
  rw [h]
  rfl
theorem lcO_fm {p : X → Option Bool} {g : X → Option β} {p' : X → Bool} {g' : X → β} : ∀ {l : List X}, (∀ a ∈ l, p a = some (p' a)) → (∀ a ∈ l, p' a = true → g a = some (g' a)) → lcO p g l = some ((l.filter p').map g')
  | [], _, _ => rfl
  | a :: l, h1, h2 => by
    have ih := lcO_fm (l := l) (fun x m => h1 x (List.mem_cons_of_mem _ m)) fun x m => h2 x (List.mem_cons_of_mem _ m)
    show (p a).bind _ = _
    rw [h1 a List.mem_cons_self]
    show (if p' a = true then _ else _) = _
    by_cases z : p' a = true
    · rw [if_pos z, h2 a List.mem_cons_self z, List.filter_cons_of_pos z]
      show (lcO p g l).bind _ = _
      rw [ih]
      rfl
    · rw [if_neg z, List.filter_cons_of_neg z]
      exact ih
theorem lcC_fm {p : X → Option Bool} {g : X → Option β} {p' : X → Bool} {g' : X → β} {l : List X} (hl : l.length ≤ 16777216) (h1 : ∀ a ∈ l, p a = some (p' a)) (h2 : ∀ a ∈ l, p' a = true → g a = some (g' a)) : lcC p g l = some ((l.filter p').map g') := by
  unfold lcC
  rw [if_pos hl, lcO_fm h1 h2]
theorem lcC_map {g : X → Option β} {g' : X → β} {l : List X} (hl : l.length ≤ 16777216) (h : ∀ a ∈ l, g a = some (g' a)) : lcC (fun _ => some true) g l = some (l.map g') := by
  rw [lcC_fm (p' := fun _ => true) (g' := g') hl (fun _ _ => rfl) (fun a m _ => h a m), List.filter_eq_self.mpr fun _ _ => rfl]
theorem lcC_rg {n : Nat} {f : Nat → X} {g : X → Option β} {g' : Nat → β} (hl : n ≤ 16777216) (h : ∀ k, k < n → g (f k) = some (g' k)) : lcC (fun _ => some true) g ((List.range n).map f) = some ((List.range n).map g') := by
  unfold lcC
  rw [if_pos (by rw [List.length_map, List.length_range]; exact hl)]
  have go : ∀ l : List Nat, (∀ k ∈ l, k < n) → lcO (fun _ => some true) g (l.map f) = some (l.map g') := by
    intro l
    induction l with
    | nil => intro _; rfl
    | cons a l ih =>
      intro hm
      show (g (f a)).bind _ = _
      rw [h a (hm a List.mem_cons_self)]
      show (lcO _ g (l.map f)).bind _ = _
      rw [ih fun k m => hm k (List.mem_cons_of_mem _ m)]
      rfl
  exact go _ fun k m => List.mem_range.mp m
theorem lcC_fl {p : X → Option Bool} {p' : X → Bool} {l : List X} (hl : l.length ≤ 16777216) (h1 : ∀ a ∈ l, p a = some (p' a)) : lcC p (fun x => some x) l = some (l.filter p') := by
  have z := lcC_fm (g := fun x => some x) (g' := id) hl h1 (fun _ _ _ => rfl)
  rw [List.map_id] at z
  exact z
theorem cut_from {l : List α} {v : Nat} (h : v ≤ l.length) : cutD l (some (v : Int)) none = l.drop v := by
  unfold cutD
  rw [HT.sIx_nat, HT.sIx_none, show min v l.length = v by omega, List.take_of_length_le (by rw [List.length_drop]; omega)]
theorem cut_to {l : List α} {v : Nat} (h : v ≤ l.length) : cutD l none (some (v : Int)) = l.take v := by
  unfold cutD
  rw [HT.sIx_nat, HT.sIx_none, show min v l.length = v by omega, List.drop_zero, Nat.sub_zero]
theorem cut_1 {l : List α} (h : 1 ≤ l.length) : cutD l (some 1) none = l.drop 1 := cut_from (v := 1) h
end
end DL
namespace DL
open PySem PySem.Spec PyProof.Rows L2
end DL
namespace DL
open PySem PySem.Spec PyProof.Rows L2
end DL
namespace DL
open PySem PySem.Spec PyProof.Rows L2
end DL
namespace DL
open PySem PySem.Spec PyProof.Rows L2
structure OkB (n : Nat) (R : Int) (ws : List (Nat × Int)) : Prop where
  r1 : 1 ≤ R
  r2 : R ≤ 999
  len : ws.length = n
  all : ∀ x ∈ ws, 1 ≤ x.1 ∧ x.1 ≤ 999 ∧ 1 ≤ x.2 ∧ x.2 ≤ R
section
variable {P : List Nat} {R : Int} {ws : List (Nat × Int)} (O : OkB P.length R ws) (few : P.length ≤ 100)
include O few
theorem OkB.w {v : Nat} (h1 : 1 ≤ v) (h2 : v ≤ P.length) : 1 ≤ (gv ws v).1 ∧ (gv ws v).1 ≤ 999 := by
  have := O.all _ (gv_mem (l := ws) h1 (by rw [O.len]; exact h2))
  exact ⟨this.1, this.2.1⟩
end
end DL
namespace DL
open PySem PySem.Spec PyProof.Rows L2
end DL
namespace DL
open PySem
def bn : Nat → Nat → Nat
  | _, 0 => 1
  | 0, _ + 1 => 0
  | n + 1, k + 1 => bn n k + bn n (k + 1)
end DL
namespace DL
def aftL : List Nat → Nat → List Nat
  | [], _ => [1]
  | _ :: _, 0 => []
  | x :: xs, u + 1 => if xs = List.replicate u x then [x + 1] else x :: aftL xs u
abbrev aft (u : Nat) (m : List Nat) : List Nat := aftL m u
end DL
namespace DL
open PySem PySem.Spec PyProof.Rows L2
end DL
namespace DL
open PySem PySem.Spec PyProof.Rows L2
end DL
namespace DL
open PySem PySem.Spec PyProof.Rows L2
theorem log_le {n j : Nat} (h : n ≤ 2 ^ j) : n.log2 ≤ j := by
  by_cases z : n = 0
  · subst z
    rw [Nat.log2_zero]
    exact Nat.zero_le _
  · exact (Nat.pow_le_pow_iff_right (by decide)).mp (Nat.le_trans (Nat.log2_self_le z) h)
theorem mulO_w {i j : Int} (h : i.natAbs.log2 + j.natAbs.log2 < 1000000) : mulO i j = some (i * j) := by
  unfold mulO mulWC
  rw [if_pos (by rw [decide_eq_true h, Bool.or_true])]
theorem divO_w {i j : Int} {b : Nat} (h : 0 < j) (hb : j.natAbs < 2 ^ b) (h9 : b ≤ 9000) : divO i j = some (i / j) := if_pos ⟨h, Nat.lt_of_lt_of_le ((Nat.log2_lt (by omega)).mpr hb) h9⟩
end DL
namespace DL
open PySem PySem.Spec PyProof.Rows L2
theorem nat_of {i : Int} (h : 0 ≤ i) : ∃ n : Nat, i = (n : Int) := ⟨i.toNat, (Int.toNat_of_nonneg h).symm⟩
theorem ix_tup {l : List PyData} {k : Nat} (h : k < l.length) : vD (p_ix (.tuple l) (.int (k : Int))) = some l[k] := by
  have q := o_ixT (f := idD) (l := l) (i := (k : Int)) (a := l[k]) (by rw [atI_nn]; exact List.getElem?_eq_getElem h)
  have e : tp idD l = .tuple l := congrArg PyData.tuple (List.map_id' l)
  rw [e] at q
  rw [q]
  rfl
theorem modO_ok {i j : Int} (h : 0 < j) : modO i j = some (i % j) := if_pos h
end DL
namespace DL
open PySem PySem.Spec PyProof.Rows L2
theorem runX_inr {n nl : Nat} {g : Fsx} {ds : List PyData} {x : Xc} {e : Ev} (hl : ds.length = n) (h : g (env0 ds nl) = some (.inr (x, e))) : runX n nl g ds = some (.inr x) := by
  unfold runX
  rw [if_pos hl, h]
theorem runF_no {n nl : Nat} {g : Fs} {ds : List PyData} (h : g (env0 ds nl) = none) : runF n nl g ds = none := by
  unfold runF
  rw [h]
  split <;> rfl
theorem s_ifT {c : Ft} {f g : Fs} {e e1 : Ev} (h : c e = some (true, e1)) : s_if c f g e = f e1 := by
  unfold s_if
  rw [h]
theorem x_ifST {c : Ft} {f g : Fsx} {e e1 : Ev} (h : c e = some (true, e1)) : x_ifS c f g e = f e1 := by
  unfold x_ifS
  rw [h]
theorem x_ifSF {c : Ft} {f g : Fsx} {e e1 : Ev} (h : c e = some (false, e1)) : x_ifS c f g e = g e1 := by
  unfold x_ifS
  rw [h]
theorem xseq_nx {f g : Fsx} {e e1 : Ev} (h : f e = some (.inl (.nx e1))) : x_seq f g e = g e1 := by
  unfold x_seq
  rw [h]
theorem xseq_inr {f g : Fsx} {e : Ev} {y : Xc × Ev} (h : f e = some (.inr y)) : x_seq f g e = some (.inr y) := by
  unfold x_seq
  rw [h]
theorem xseq_rt {f g : Fsx} {e e1 : Ev} {r : Rs} (h : f e = some (.inl (.rt r e1))) : x_seq f g e = some (.inl (.rt r e1)) := by
  unfold x_seq
  rw [h]
theorem sseq_nx {f g : Fs} {e e1 : Ev} (h : f e = some (.nx e1)) : s_seq f g e = g e1 := by
  unfold s_seq
  rw [h]
theorem sseq_no {f g : Fs} {e : Ev} (h : f e = none) : s_seq f g e = none := by
  unfold s_seq
  rw [h]
theorem call_no {φ : List PyData → Option Rs} {dds ds : List PyData} {fa : Fa} {e e1 : Ev} (ha : argsI fa e = some (ds, e1)) (h : φ (ds ++ dds) = none) : x_call φ dds fa e = none := by
  rw [r_x_call, ha]
  dsimp only
  rw [h]
theorem drop_no {f : Fe} {e : Ev} (h : f e = none) : s_drop f e = none := by
  unfold s_drop
  rw [h]
theorem drop_ok {f : Fe} {e e1 : Ev} {r : Rs} (h : f e = some (r, e1)) : s_drop f e = some (.nx e1) := by
  unfold s_drop
  rw [h]
theorem ret_no {f : Fe} {e : Ev} (h : f e = none) : s_ret f e = none := by
  unfold s_ret
  rw [h]
theorem callX_inr {φ : List PyData → Option Ro} {dds ds : List PyData} {fa : Fa} {e e1 : Ev} {x : Xc} (ha : argsI fa e = some (ds, e1)) (h : φ (ds ++ dds) = some (.inr x)) : x_callX φ dds fa e = some (.inr (x, e1)) := by
  unfold x_callX
  rw [ha]
  dsimp only
  rw [h]
theorem callX_inl {φ : List PyData → Option Ro} {dds ds : List PyData} {fa : Fa} {e e1 : Ev} {d : PyData} (ha : argsI fa e = some (ds, e1)) (h : φ (ds ++ dds) = some (.inl (.im d))) : x_callX φ dds fa e = some (.inl (.im d, e1)) := by
  unfold x_callX
  rw [ha]
  dsimp only
  rw [h]
theorem xdrop_inr {f : Fex} {e : Ev} {y : Xc × Ev} (h : f e = some (.inr y)) : x_drop f e = some (.inr y) := by
  unfold x_drop
  rw [h]
theorem xdrop_inl {f : Fex} {e e1 : Ev} {r : Rs} (h : f e = some (.inl (r, e1))) : x_drop f e = some (.inl (.nx e1)) := by
  unfold x_drop
  rw [h]
theorem xret_inr {f : Fex} {e : Ev} {y : Xc × Ev} (h : f e = some (.inr y)) : x_ret f e = some (.inr y) := by
  unfold x_ret
  rw [h]
theorem xret_inl {f : Fex} {e e1 : Ev} {r : Rs} (h : f e = some (.inl (r, e1))) : x_ret f e = some (.inl (.rt r e1)) := by
  unfold x_ret
  rw [h]
theorem orRx_no {φ : List PyData → Option Rs} {ψ : List PyData → Option Ro} {ds : List PyData} {o : Option Ro} (h : φ ds = none) (k : ψ ds = o) : orRx φ ψ ds = o := by
  unfold orRx
  rw [h]
  exact k
def nu (w : Str) : Xc := ⟨"NotUsable", [("at", .int (-1)), ("word", .str w)]⟩
end DL
namespace DL
open PySem
inductive Tr where
  | lf
  | nd (a b : Tr)
def Tr.sz : Tr → Nat
  | .lf => 0
  | .nd a b => a.sz + b.sz + 1
def Tr.cut (a : Tr) : Int := (a.sz : Int) + 1
/-- the plan -/
def Tr.pl : Tr → List Int
  | .lf => []
  | .nd a b => a.pl ++ 0 :: b.pl.map fun x => a.cut + x
/-- the turns to the left, to the right, of the buds -/
def Tr.lf' : Tr → List Int
  | .lf => [0]
  | .nd a b => a.lf'.map (· + 1) ++ b.lf'
def Tr.rg' : Tr → List Int
  | .lf => [0]
  | .nd a b => a.rg' ++ b.rg'.map (· + 1)
/-- the chain of the last version, from 0 up -/
def Tr.ch : Tr → List Int
  | .lf => [0]
  | .nd a b => 0 :: b.ch.map fun x => a.cut + x
def Tr.mir : Tr → Tr
  | .lf => .lf
  | .nd a b => .nd b.mir a.mir
/-- one more version -/
def Tr.app : Tr → Nat → Tr
  | t, 0 => .nd t .lf
  | .nd a b, i + 1 => .nd a (b.app i)
  | .lf, _ + 1 => .lf
theorem Tr.cut_pos (a : Tr) : 0 < a.cut := by unfold Tr.cut; omega
theorem Tr.pl_len : ∀ t : Tr, t.pl.length = t.sz
  | .lf => rfl
  | .nd a b => by
    show (a.pl ++ 0 :: b.pl.map _).length = a.sz + b.sz + 1
    rw [List.length_append, List.length_cons, List.length_map, pl_len a, pl_len b]
    omega
theorem Tr.lf_len : ∀ t : Tr, t.lf'.length = t.sz + 1
  | .lf => rfl
  | .nd a b => by
    show (a.lf'.map _ ++ b.lf').length = a.sz + b.sz + 1 + 1
    rw [List.length_append, List.length_map, lf_len a, lf_len b]
    omega
theorem Tr.rg_len : ∀ t : Tr, t.rg'.length = t.sz + 1
  | .lf => rfl
  | .nd a b => by
    show (a.rg' ++ b.rg'.map _).length = a.sz + b.sz + 1 + 1
    rw [List.length_append, List.length_map, rg_len a, rg_len b]
    omega
theorem Tr.rg_nn : ∀ (t : Tr), ∀ x ∈ t.rg', 0 ≤ x
  | .lf, x, h => by
    have : x = 0 := by simpa [Tr.rg'] using h
    omega
  | .nd a b, x, h => by
    rcases List.mem_append.mp (show x ∈ a.rg' ++ b.rg'.map (· + 1) from h) with h | h
    · exact rg_nn a x h
    · obtain ⟨y, hy, rfl⟩ := List.mem_map.mp h
      have := rg_nn b y hy
      omega
theorem Tr.pl_nn : ∀ (t : Tr), ∀ x ∈ t.pl, 0 ≤ x
  | .lf, x, h => by cases h
  | .nd a b, x, h => by
    rcases List.mem_append.mp (show x ∈ a.pl ++ 0 :: b.pl.map _ from h) with h | h
    · exact pl_nn a x h
    · rcases List.mem_cons.mp h with h | h
      · omega
      · obtain ⟨y, hy, rfl⟩ := List.mem_map.mp h
        have := pl_nn b y hy
        have := a.cut_pos
        omega
theorem Tr.ch_ne : ∀ t : Tr, t.ch ≠ []
  | .lf => by intro h; cases h
  | .nd a b => by intro h; cases h
theorem Tr.ch_zero : ∀ t : Tr, t.ch[0]? = some 0
  | .lf => rfl
  | .nd a b => rfl
/-- each member of the chain reads the one ahead of it -/
theorem Tr.ch_step : ∀ (t : Tr) (i : Nat) (x : Int), t.ch[i + 1]? = some x → 1 ≤ x ∧ x ≤ t.sz ∧ t.pl[(x - 1).toNat]? = t.ch[i]?
  | .lf, i, x, h => by cases h
  | .nd a b, 0, x, h => by
    have h0 : (0 :: b.ch.map fun x => a.cut + x)[0 + 1]? = some x := h
    rw [List.getElem?_cons_succ, List.getElem?_map, ch_zero b] at h0
    have e : x = a.cut := by
      have : a.cut + 0 = x := Option.some.inj h0
      omega
    subst e
    refine ⟨by have := a.cut_pos; omega, by show a.cut ≤ ((a.sz + b.sz + 1 : Nat) : Int); unfold Tr.cut; omega, ?_⟩
    show (a.pl ++ 0 :: b.pl.map _)[(a.cut - 1).toNat]? = some 0
    have e2 : (a.cut - 1).toNat = a.pl.length := by rw [pl_len]; unfold Tr.cut; omega
    rw [e2, List.getElem?_append_right (Nat.le_refl _), Nat.sub_self]
    rfl
  | .nd a b, i + 1, x, h => by
    have h0 : (0 :: b.ch.map fun x => a.cut + x)[i + 1 + 1]? = some x := h
    rw [List.getElem?_cons_succ, List.getElem?_map] at h0
    cases hy : b.ch[i + 1]? with
    | none => rw [hy] at h0; cases h0
    | some y =>
      rw [hy] at h0
      cases h0
      obtain ⟨h1, h2, h3⟩ := ch_step b i y hy
      refine ⟨by show 1 ≤ a.cut + y; have := a.cut_pos; omega, by show a.cut + y ≤ ((a.sz + b.sz + 1 : Nat) : Int); unfold Tr.cut; omega, ?_⟩
      show (a.pl ++ 0 :: b.pl.map _)[(a.cut + y - 1).toNat]? = (0 :: b.ch.map fun x => a.cut + x)[i + 1]?
      have e2 : (a.cut + y - 1).toNat = a.pl.length + ((y - 1).toNat + 1) := by rw [pl_len]; unfold Tr.cut; omega
      rw [e2, List.getElem?_append_right (Nat.le_add_right _ _), Nat.add_sub_cancel_left, List.getElem?_cons_succ, List.getElem?_cons_succ, List.getElem?_map, List.getElem?_map, h3]
theorem Tr.ch_lt : ∀ (t : Tr) (i : Nat) (x : Int), t.ch[i]? = some x → 0 ≤ x ∧ x ≤ t.sz := fun t i x h => by
  cases i with
  | zero =>
    rw [ch_zero] at h
    cases h
    omega
  | succ i =>
    have := ch_step t i x h
    omega
theorem Tr.app_sz : ∀ (t : Tr) (i : Nat), i < t.ch.length → (t.app i).sz = t.sz + 1
  | .lf, 0, _ => rfl
  | .nd a b, 0, _ => by
    show (Tr.nd (.nd a b) .lf).sz = _
    show (Tr.nd a b).sz + 0 + 1 = _
    omega
  | .lf, i + 1, h => by
    have : i + 1 < 1 := h
    omega
  | .nd a b, i + 1, h => by
    have h2 : i < b.ch.length := by
      have : i + 1 < (0 :: b.ch.map fun x => a.cut + x).length := h
      rw [List.length_cons, List.length_map] at this
      omega
    show a.sz + (b.app i).sz + 1 = a.sz + b.sz + 1 + 1
    rw [app_sz b i h2]
    omega
theorem Tr.app_pl : ∀ (t : Tr) (i : Nat) (x : Int), t.ch[i]? = some x → (t.app i).pl = t.pl ++ [x]
  | .lf, 0, x, h => by
    cases h
    rfl
  | .nd a b, 0, x, h => by
    cases h
    rfl
  | .lf, i + 1, x, h => by cases h
  | .nd a b, i + 1, x, h => by
    have h0 : (0 :: b.ch.map fun x => a.cut + x)[i + 1]? = some x := h
    rw [List.getElem?_cons_succ, List.getElem?_map] at h0
    cases hy : b.ch[i]? with
    | none => rw [hy] at h0; cases h0
    | some y =>
      rw [hy] at h0
      cases h0
      show a.pl ++ 0 :: (b.app i).pl.map _ = (a.pl ++ 0 :: b.pl.map _) ++ [a.cut + y]
      rw [app_pl b i y hy, List.map_append, List.append_assoc]
      rfl
theorem Tr.app_of : ∀ (t : Tr) (n : Nat), t.sz = n + 1 → ∃ (u : Tr) (i : Nat), u.sz = n ∧ i < u.ch.length ∧ t = u.app i
  | .lf, n, h => by cases h
  | .nd a .lf, n, h => by
    have : a.sz + 0 + 1 = n + 1 := h
    exact ⟨a, 0, by omega, List.length_pos_iff.mpr a.ch_ne, by cases a <;> rfl⟩
  | .nd a (.nd c d), n, h => by
    have h1 : a.sz + (Tr.nd c d).sz + 1 = n + 1 := h
    obtain ⟨u, i, h2, h3, h4⟩ := app_of (.nd c d) (c.sz + d.sz) rfl
    refine ⟨.nd a u, i + 1, ?_, ?_, ?_⟩
    · show a.sz + u.sz + 1 = n
      have : (Tr.nd c d).sz = c.sz + d.sz + 1 := rfl
      omega
    · show i + 1 < (0 :: u.ch.map _).length
      rw [List.length_cons, List.length_map]
      omega
    · show _ = Tr.nd a (u.app i)
      rw [← h4]
theorem Tr.mir_sz : ∀ t : Tr, t.mir.sz = t.sz
  | .lf => rfl
  | .nd a b => by
    show b.mir.sz + a.mir.sz + 1 = a.sz + b.sz + 1
    rw [mir_sz a, mir_sz b]
    omega
theorem Tr.mir_rg : ∀ t : Tr, t.mir.rg' = t.lf'.reverse
  | .lf => rfl
  | .nd a b => by
    show b.mir.rg' ++ a.mir.rg'.map (· + 1) = (a.lf'.map (· + 1) ++ b.lf').reverse
    rw [mir_rg a, mir_rg b, List.reverse_append, List.map_reverse]
theorem Tr.mir_mir : ∀ t : Tr, t.mir.mir = t
  | .lf => rfl
  | .nd a b => by
    show Tr.nd a.mir.mir b.mir.mir = _
    rw [mir_mir a, mir_mir b]
end DL
namespace DL
open PySem PySem.Spec PyProof.Rows L2
section
variable {X Y σ ρ : Type}
theorem forS_app {body : X → σ → Option σ} : ∀ (l m : List X) (s : σ), forS body (l ++ m) s = (forS body l s).bind fun s' => forS body m s'
  | [], m, s => rfl
  | a :: l, m, s => by
    show (body a s).bind _ = ((body a s).bind _).bind _
    cases body a s with
    | none => rfl
    | some s' => exact forS_app l m s'
theorem forS_to {body : X → σ → Option σ} {l m : List X} {s s' r : σ} (h : forS body l s = some s') (k : forS body m s' = some r) : forS body (l ++ m) s = some r := by
  rw [forS_app, h]
  exact k
theorem forS_cons {body : X → σ → Option σ} {a : X} {l : List X} {s s' r : σ} (h : body a s = some s') (k : forS body l s' = some r) : forS body (a :: l) s = some r := by
  show (body a s).bind _ = _
  rw [h]
  exact k
/-- a body that never breaks, never returns -/
def nxO (body : X → σ → Option (Lp σ ρ)) : X → σ → Option σ := fun x s => match body x s with
  | some (.nx s') => some s'
  | _ => none
theorem nxO_ok {body : X → σ → Option (Lp σ ρ)} {x : X} {s s' : σ} (h : body x s = some (.nx s')) : nxO body x s = some s' := by
  unfold nxO
  rw [h]
theorem forG_of {body : X → σ → Option (Lp σ ρ)} : ∀ {l : List X} {s s' : σ}, forS (nxO body) l s = some s' → forG body l s = some (.nx s')
  | [], s, s', h => by
    cases h
    rfl
  | a :: l, s, s', h => by
    change (nxO body a s).bind _ = _ at h
    show (body a s).bind _ = _
    unfold nxO at h
    cases h1 : body a s with
    | none => rw [h1] at h; cases h
    | some q =>
      rw [h1] at h
      cases q with
      | nx s1 => exact forG_of (l := l) (s := s1) h
      | bk s1 => cases h
      | rt r => cases h
end
theorem atI_end {α : Type} (l : List α) (x : α) : atI (l ++ [x]) (-1 : Int) = some x := by
  unfold atI L2.ixN
  rw [List.length_append, List.length_singleton, if_neg (by omega), if_pos (by omega)]
  show (l ++ [x])[((-1 : Int) + ((l.length + 1 : Nat) : Int)).toNat]? = some x
  rw [show ((-1 : Int) + ((l.length + 1 : Nat) : Int)).toNat = l.length by omega, List.getElem?_append_right (Nat.le_refl _), Nat.sub_self]
  rfl
theorem join1 : ∀ (ys : List Str), (∀ y ∈ ys, y.length = 1) → (Txt.join (Str.ofString "") ys).cps.toList = ys.flatMap fun y => y.cps.toList := by
  intro ys h
  rw [show Txt.join (Str.ofString "") ys = Builtin.Str.glued (Str.ofString "") ys from rfl, StrLaws.glued_eq_join]
  clear h
  induction ys with
  | nil => rfl
  | cons x r ih =>
    cases r with
    | nil => simp [Str.join]
    | cons y r =>
      show (x ++ Str.ofString "" ++ Str.join (Str.ofString "") (y :: r)).cps.toList = _
      rw [show (x ++ Str.ofString "" ++ Str.join (Str.ofString "") (y :: r)).cps.toList = (x.cps ++ (Str.ofString "").cps ++ (Str.join (Str.ofString "") (y :: r)).cps).toList from rfl]
      rw [Array.toList_append, Array.toList_append, ih, show (Str.ofString "").cps.toList = [] by decide, List.append_nil, List.flatMap_cons (f := fun y : Str => y.cps.toList) (x := x)]
theorem one_sign {y : Str} (h : y.length = 1) : y.cps.toList.map (fun c => (⟨#[c]⟩ : Str)) = [y] := by
  obtain ⟨⟨l⟩⟩ := y
  have h2 : l.length = 1 := h
  match l, h2 with
  | [c], _ => rfl
theorem signs_join {ys : List Str} (h : ∀ y ∈ ys, y.length = 1) : signs (Txt.join (Str.ofString "") ys) = ys := by
  unfold signs
  rw [join1 ys h]
  induction ys with
  | nil => rfl
  | cons y ys ih =>
    rw [List.flatMap_cons, List.map_append, one_sign (h y List.mem_cons_self), ih fun z hz => h z (List.mem_cons_of_mem _ hz)]
    rfl
theorem signs_rev (z : Str) : signs (revS z) = (signs z).reverse := by
  unfold signs revS
  rw [← List.map_reverse]
theorem join_len {ys : List Str} (h : ∀ y ∈ ys, y.length = 1) : (Txt.join (Str.ofString "") ys).length = ys.length := by
  have e := signs_join h
  have e2 := congrArg List.length e
  unfold signs at e2
  rw [List.length_map, Array.length_toList] at e2
  exact e2
end DL
namespace DL
open PySem PySem.Spec PyProof.Rows L2
def ltN (e : Int) (l : List Int) : Nat := (l.filter fun x => decide (x < e)).length
theorem ltN_cons (w a : Int) (l : List Int) : ltN w (a :: l) = (if a < w then 1 else 0) + ltN w l := by
  unfold ltN
  rw [List.filter_cons]
  by_cases c : a < w
  · rw [if_pos (decide_eq_true c), if_pos c, List.length_cons]
    omega
  · rw [if_neg (by rw [decide_eq_false c]; exact Bool.false_ne_true), if_neg c]
    omega
theorem ltN_app (w : Int) (a b : List Int) : ltN w (a ++ b) = ltN w a + ltN w b := by
  unfold ltN
  rw [List.filter_append, List.length_append]
theorem ltN_shift (c e : Int) (l : List Int) : ltN e (l.map fun x => c + x) = ltN (e - c) l := by
  unfold ltN
  rw [List.filter_map, List.length_map]
  congr 2
  funext x
  exact decide_eq_decide.mpr ⟨fun h => by have h : c + x < e := h; omega, fun h => by show c + x < e; omega⟩
theorem ltN_no {e : Int} {l : List Int} (h : ∀ x ∈ l, e ≤ x) : ltN e l = 0 := by
  unfold ltN
  rw [List.length_eq_zero_iff, List.filter_eq_nil_iff]
  intro x hx
  have := h x hx
  simp
  omega
theorem Tr.lf_last : ∀ t : Tr, t.lf'[t.sz]? = some 0
  | .lf => rfl
  | .nd a b => by
    show (a.lf'.map (· + 1) ++ b.lf')[a.sz + b.sz + 1]? = some 0
    rw [List.getElem?_append_right (by rw [List.length_map, lf_len]; omega), List.length_map, lf_len, show a.sz + b.sz + 1 - (a.sz + 1) = b.sz by omega]
    exact lf_last b
theorem Tr.rg_head : ∀ t : Tr, t.rg'[0]? = some 0
  | .lf => rfl
  | .nd a b => by
    show (a.rg' ++ b.rg'.map (· + 1))[0]? = some 0
    rw [List.getElem?_append_left (by rw [rg_len]; omega)]
    exact rg_head a
theorem Tr.wr : ∀ (t : Tr) (i : Nat) (x : Int), t.lf'[i]? = some x → i < t.sz → (ltN ((i : Int) + 1) (t.pl.drop i) : Int) = x
  | .lf, i, x, _, h => by cases h
  | .nd a b, i, x, h, hi => by
    have hz : (Tr.nd a b).sz = a.sz + b.sz + 1 := rfl
    have h : (a.lf'.map (· + 1) ++ b.lf')[i]? = some x := h
    show (ltN ((i : Int) + 1) ((a.pl ++ 0 :: b.pl.map fun x => a.cut + x).drop i) : Int) = x
    have la := a.pl_len
    by_cases c : i < a.sz + 1
    · rw [List.getElem?_append_left (by rw [List.length_map, lf_len]; exact c), List.getElem?_map] at h
      cases hy : a.lf'[i]? with
      | none => rw [hy] at h; cases h
      | some y =>
        rw [hy] at h
        cases h
        rw [List.drop_append_of_le_length (by omega), ltN_app]
        have z : ltN ((i : Int) + 1) (0 :: b.pl.map fun x => a.cut + x) = 1 := by
          rw [ltN_cons, ltN_no (l := b.pl.map _)]
          · rw [if_pos (by omega)]
          · intro x hx
            obtain ⟨y, hy, rfl⟩ := List.mem_map.mp hx
            have := b.pl_nn y hy
            show (i : Int) + 1 ≤ a.cut + y
            unfold Tr.cut
            omega
        rw [z]
        by_cases d : i < a.sz
        · have := wr a i y hy d
          show ((ltN ((i : Int) + 1) (a.pl.drop i) + 1 : Nat) : Int) = y + 1
          omega
        · have e : i = a.sz := by omega
          subst e
          rw [lf_last] at hy
          cases hy
          rw [List.drop_eq_nil_of_le (by omega)]
          rfl
    · rw [List.getElem?_append_right (by rw [List.length_map, lf_len]; omega), List.length_map, lf_len] at h
      have := wr b (i - (a.sz + 1)) x h (by omega)
      rw [List.drop_append, List.drop_eq_nil_of_le (by omega), List.nil_append, la]
      obtain ⟨j, hj⟩ : ∃ j, i - a.sz = j + 1 := ⟨i - a.sz - 1, by omega⟩
      rw [hj, List.drop_succ_cons, ← List.map_drop, ltN_shift]
      rw [show i - (a.sz + 1) = j by omega] at this
      rw [← this]
      congr 2
      unfold Tr.cut
      omega
theorem Tr.wrs (t : Tr) : ((List.range t.sz).map fun (k : Nat) => (ltN ((k : Int) + 1) (t.pl.drop k) : Int)) = t.lf'.take t.sz := by
  apply List.ext_getElem?
  intro i
  by_cases h : i < t.sz
  · rw [List.getElem?_map, List.getElem?_range h, List.getElem?_take_of_lt h]
    have hl : i < t.lf'.length := by rw [lf_len]; omega
    rw [List.getElem?_eq_getElem hl]
    exact congrArg some (t.wr i _ (List.getElem?_eq_getElem hl) h)
  · rw [List.getElem?_eq_none (by rw [List.length_map, List.length_range]; omega), List.getElem?_eq_none (by rw [List.length_take]; omega)]
theorem Tr.pre : ∀ (n : Nat) (t : Tr), t.sz = n → ∀ z, z < n → ∃ (u : Tr) (x : Int), u.sz = z ∧ u.pl = t.pl.take z ∧ t.pl[z]? = some x ∧ x ∈ u.ch
  | 0, _, _, z, hz => absurd hz (Nat.not_lt_zero _)
  | n + 1, t, ht, z, hz => by
    obtain ⟨u, i, h1, h2, h3⟩ := t.app_of n ht
    have h4 := u.app_pl i _ (List.getElem?_eq_getElem h2)
    rw [← h3] at h4
    have lu := u.pl_len
    by_cases c : z = n
    · subst c
      refine ⟨u, u.ch[i], h1, ?_, ?_, List.getElem_mem _⟩
      · rw [h4, List.take_left' (by omega)]
      · rw [h4, List.getElem?_append_right (by omega), lu, h1, Nat.sub_self]
        rfl
    · obtain ⟨v, x, k1, k2, k3, k4⟩ := pre n u h1 z (by omega)
      refine ⟨v, x, k1, ?_, ?_, k4⟩
      · rw [k2, h4, List.take_append_of_le_length (by omega)]
      · rw [h4, List.getElem?_append_left (by omega)]
        exact k3
def cap (w q : Nat) : Nat := bn (w + q) q
structure Due (q n : Nat) (l : List Int) : Prop where
  len : l.length = n
  at_ : ∀ k, k < n → ∃ w : Nat, l[k]? = some (w : Int) ∧ 1 ≤ w ∧ k + 1 < cap w q ∧ cap (w - 1) q ≤ k + 1
theorem Due.app {q n : Nat} {l : List Int} {w : Nat} (a : Due q n l) (h1 : 1 ≤ w) (h2 : n + 1 < cap w q) (h3 : cap (w - 1) q ≤ n + 1) : Due q (n + 1) (l ++ [(w : Int)]) := by
  refine ⟨by rw [List.length_append, a.len]; rfl, fun k hk => ?_⟩
  by_cases c : k < n
  · obtain ⟨v, k1, k2⟩ := a.at_ k c
    exact ⟨v, by rw [List.getElem?_append_left (by rw [a.len]; exact c)]; exact k1, k2⟩
  · have e : k = n := by omega
    subst e
    exact ⟨w, by rw [List.getElem?_append_right (by rw [a.len]; omega), a.len, Nat.sub_self]; rfl, h1, h2, h3⟩
theorem Due.nil {q : Nat} : Due q 0 [] := ⟨rfl, fun k h => absurd h (Nat.not_lt_zero _)⟩
theorem Tr.lf_split (t : Tr) : t.lf' = t.lf'.take t.sz ++ [0] := by
  have h := t.lf_last
  have hl := t.lf_len
  have e := List.drop_eq_getElem_cons (l := t.lf') (i := t.sz) (by omega)
  have e2 : t.lf'[t.sz]'(by omega) = 0 := by
    rw [List.getElem?_eq_getElem (by omega)] at h
    exact Option.some.inj h
  rw [e2, List.drop_eq_nil_of_le (show t.lf'.length ≤ t.sz + 1 by omega)] at e
  have e3 := List.take_append_drop t.sz t.lf'
  rw [e] at e3
  exact e3.symm
end DL
namespace DL
open PySem PySem.Spec PyProof.Rows L2
theorem forG_cons {X σ ρ : Type} {body : X → σ → Option (Lp σ ρ)} {a : X} {l : List X} {s s' : σ} {r : Option (Lp σ ρ)} (h : body a s = some (.nx s')) (k : forG body l s' = r) : forG body (a :: l) s = r := by
  show (body a s).bind _ = _
  rw [h]
  exact k
theorem Tr.ch_len : ∀ t : Tr, 1 ≤ t.ch.length ∧ t.ch.length ≤ t.sz + 1
  | .lf => ⟨Nat.le_refl _, Nat.le_refl _⟩
  | .nd a b => by
    have := ch_len b
    show 1 ≤ (0 :: b.ch.map _).length ∧ (0 :: b.ch.map _).length ≤ a.sz + b.sz + 1 + 1
    rw [List.length_cons, List.length_map]
    omega
theorem Tr.ch_app : ∀ (t : Tr) (i : Nat), i < t.ch.length → (t.app i).ch = t.ch.take (i + 1) ++ [(t.sz : Int) + 1]
  | .lf, 0, _ => rfl
  | .nd a b, 0, _ => by
    show (0 : Int) :: [(Tr.nd a b).cut + 0] = [0] ++ [((Tr.nd a b).sz : Int) + 1]
    rw [Int.add_zero]
    rfl
  | .lf, i + 1, h => by
    have : i + 1 < 1 := h
    omega
  | .nd a b, i + 1, h => by
    have h2 : i < b.ch.length := by
      have : i + 1 < (0 :: b.ch.map fun x => a.cut + x).length := h
      rw [List.length_cons, List.length_map] at this
      omega
    show (0 : Int) :: (b.app i).ch.map (fun x => a.cut + x) = (0 :: b.ch.map fun x => a.cut + x).take (i + 1 + 1) ++ _
    rw [ch_app b i h2, List.take_succ_cons, List.map_append, List.map_take]
    show 0 :: (_ ++ [a.cut + ((b.sz : Int) + 1)]) = 0 :: (_ ++ [((a.sz + b.sz + 1 : Nat) : Int) + 1])
    congr 2
    unfold Tr.cut
    congr 1
    omega
theorem Tr.ch_nn (t : Tr) : ∀ x ∈ t.ch, 0 ≤ x := fun x m => by
  obtain ⟨i, h⟩ := List.mem_iff_getElem?.mp m
  exact (t.ch_lt i x h).1
theorem Tr.ch_pw : ∀ t : Tr, t.ch.Pairwise (· < ·)
  | .lf => List.pairwise_singleton _ _
  | .nd a b => by
    refine List.pairwise_cons.mpr ⟨fun x m => ?_, List.pairwise_map.mpr ((ch_pw b).imp fun h => by omega)⟩
    obtain ⟨y, hy, rfl⟩ := List.mem_map.mp m
    have := b.ch_nn y hy
    have := a.cut_pos
    show 0 < a.cut + y
    omega
/-- who stands in a chain -/
theorem Tr.ch_iff : ∀ (t : Tr) (x : Int), x ∈ t.ch ↔ 0 ≤ x ∧ x ≤ t.sz ∧ ∀ (v : Nat) (y : Int), x ≤ (v : Int) → t.pl[v]? = some y → x ≤ y
  | .lf, x => by
    constructor
    · intro m
      have e : x = 0 := by simpa [Tr.ch] using m
      subst e
      exact ⟨Int.le_refl _, Int.le_refl _, fun v y _ h => by cases h⟩
    · rintro ⟨h1, h2, _⟩
      have h2 : x ≤ 0 := h2
      have e : x = 0 := by omega
      subst e
      exact List.mem_singleton.mpr rfl
  | .nd a b, x => by
    have la := a.pl_len
    have lb := b.pl_len
    have hp : ∀ v : Nat, (Tr.nd a b).pl[v]? = (a.pl ++ 0 :: b.pl.map fun x => a.cut + x)[v]? := fun v => rfl
    have hz : ((Tr.nd a b).sz : Int) = a.cut + (b.sz : Int) := by
      show ((a.sz + b.sz + 1 : Nat) : Int) = _
      unfold Tr.cut
      omega
    have cp := a.cut_pos
    have ce : a.cut = (a.sz : Int) + 1 := rfl
    constructor
    · intro m
      rcases List.mem_cons.mp (show x ∈ 0 :: b.ch.map fun x => a.cut + x from m) with m | m
      · subst m
        refine ⟨Int.le_refl _, by omega, fun v y _ h => ?_⟩
        exact Tr.pl_nn (.nd a b) y (List.mem_of_getElem? h)
      · obtain ⟨z, mz, rfl⟩ := List.mem_map.mp m
        obtain ⟨h1, h2, h3⟩ := (ch_iff b z).mp mz
        refine ⟨by omega, by show a.cut + z ≤ _; omega, fun v y hv h => ?_⟩
        have hv : a.cut + z ≤ (v : Int) := hv
        rw [hp, List.getElem?_append_right (by omega), la] at h
        obtain ⟨k, hk⟩ : ∃ k, v - a.sz = k + 1 := ⟨v - a.sz - 1, by omega⟩
        rw [hk, List.getElem?_cons_succ, List.getElem?_map] at h
        cases hy : b.pl[k]? with
        | none => rw [hy] at h; cases h
        | some w =>
          rw [hy] at h
          cases h
          have := h3 k w (by omega) hy
          show a.cut + z ≤ a.cut + w
          omega
    · rintro ⟨h1, h2, h3⟩
      show x ∈ 0 :: b.ch.map fun x => a.cut + x
      by_cases c0 : x = 0
      · rw [c0]
        exact List.mem_cons_self
      · refine List.mem_cons_of_mem _ ?_
        have c1 : a.cut ≤ x := by
          apply Int.not_lt.mp
          intro c
          have := h3 a.sz 0 (by omega) (by rw [hp, List.getElem?_append_right (by omega), la, Nat.sub_self]; rfl)
          omega
        refine List.mem_map.mpr ⟨x - a.cut, (ch_iff b (x - a.cut)).mpr ⟨by omega, by omega, fun v y hv h => ?_⟩, by omega⟩
        have := h3 (a.sz + 1 + v) (a.cut + y) (by omega) (by
          rw [hp, List.getElem?_append_right (by omega), la, show a.sz + 1 + v - a.sz = v + 1 by omega, List.getElem?_cons_succ, List.getElem?_map, h]
          rfl)
        omega
/-- plans by growing -/
def Tr.grow : Tr → List Int → Option Tr
  | u, [] => some u
  | u, x :: l => if x ∈ u.ch then Tr.grow (u.app (u.ch.idxOf x)) l else none
theorem idx_of {l : List Int} {x : Int} (h : x ∈ l) : l[l.idxOf x]? = some x := by
  have h2 := List.idxOf_lt_length_of_mem h
  rw [List.getElem?_eq_getElem h2, List.getElem_idxOf]
theorem Tr.grow_app : ∀ (l m : List Int) (u : Tr), u.grow (l ++ m) = (u.grow l).bind fun v => v.grow m
  | [], m, u => rfl
  | x :: l, m, u => by
    show (if x ∈ u.ch then Tr.grow (u.app (u.ch.idxOf x)) (l ++ m) else none) = (if x ∈ u.ch then Tr.grow (u.app (u.ch.idxOf x)) l else none).bind _
    by_cases h : x ∈ u.ch
    · rw [if_pos h, if_pos h, grow_app l m]
    · rw [if_neg h, if_neg h]
      rfl
theorem Tr.grow_pl : ∀ (l : List Int) (u t : Tr), u.grow l = some t → t.pl = u.pl ++ l ∧ t.sz = u.sz + l.length
  | [], u, t, h => by
    cases h
    exact ⟨(List.append_nil _).symm, rfl⟩
  | x :: l, u, t, h => by
    have h : (if x ∈ u.ch then Tr.grow (u.app (u.ch.idxOf x)) l else none) = some t := h
    by_cases c : x ∈ u.ch
    · rw [if_pos c] at h
      obtain ⟨h1, h2⟩ := grow_pl l _ t h
      have i := idx_of c
      rw [u.app_pl _ _ i] at h1
      rw [u.app_sz _ (List.idxOf_lt_length_of_mem c)] at h2
      refine ⟨by rw [h1, List.append_assoc]; rfl, ?_⟩
      rw [h2, List.length_cons]
      omega
    · rw [if_neg c] at h
      cases h
theorem idx_uniq {l : List Int} (p : l.Pairwise (· < ·)) {i : Nat} {x : Int} (h : l[i]? = some x) : l.idxOf x = i := by
  have m := List.mem_of_getElem? h
  have k := idx_of m
  obtain ⟨hi, ei⟩ := List.getElem?_eq_some_iff.mp h
  obtain ⟨hj, ej⟩ := List.getElem?_eq_some_iff.mp k
  rcases Nat.lt_trichotomy (l.idxOf x) i with c | c | c
  · have := List.pairwise_iff_getElem.mp p _ _ hj hi c
    omega
  · exact c
  · have := List.pairwise_iff_getElem.mp p _ _ hi hj c
    omega
theorem Tr.grow_of : ∀ (n : Nat) (t : Tr), t.sz = n → Tr.lf.grow t.pl = some t
  | 0, .lf, _ => rfl
  | 0, .nd a b, h => by cases h
  | n + 1, t, h => by
    obtain ⟨u, i, h1, h2, h3⟩ := t.app_of n h
    have e := u.app_pl i _ (List.getElem?_eq_getElem h2)
    rw [h3, e, grow_app, grow_of n u h1]
    show (if u.ch[i] ∈ u.ch then Tr.grow (u.app (u.ch.idxOf u.ch[i])) [] else none) = _
    rw [if_pos (List.getElem_mem _), idx_uniq u.ch_pw (List.getElem?_eq_getElem h2)]
    rfl
/-- the nearest version with less reads -/
theorem Tr.near : ∀ (t : Tr) (v : Nat), 1 ≤ v → v ≤ t.sz → ∃ (b : Nat) (rb rv : Int), t.pl[v - 1]? = some (b : Int) ∧ b < v ∧ t.rg'[b]? = some rb ∧ t.rg'[v]? = some rv ∧ rb + 1 = rv ∧ ∀ (x : Nat) (r : Int), b < x → x < v → t.rg'[x]? = some r → rv ≤ r
  | .lf, v, h1, h2 => by
    have : v ≤ 0 := h2
    omega
  | .nd a b, v, h1, h2 => by
    have la := a.pl_len
    have ra := a.rg_len
    have hp : ∀ k : Nat, (Tr.nd a b).pl[k]? = (a.pl ++ 0 :: b.pl.map fun x => a.cut + x)[k]? := fun k => rfl
    have hr : ∀ k : Nat, (Tr.nd a b).rg'[k]? = (a.rg' ++ b.rg'.map (· + 1))[k]? := fun k => rfl
    have hz : (Tr.nd a b).sz = a.sz + b.sz + 1 := rfl
    have left : ∀ k, k ≤ a.sz → (Tr.nd a b).rg'[k]? = a.rg'[k]? := fun k hk => by rw [hr, List.getElem?_append_left (by omega)]
    have right : ∀ k, (Tr.nd a b).rg'[a.sz + 1 + k]? = (b.rg'[k]?).map (· + 1) := fun k => by
      rw [hr, List.getElem?_append_right (by omega), ra, Nat.add_sub_cancel_left, List.getElem?_map]
    by_cases c : v ≤ a.sz
    · obtain ⟨β, rb, rv, k1, k2, k3, k4, k5, k6⟩ := near a v h1 c
      refine ⟨β, rb, rv, by rw [hp, List.getElem?_append_left (by omega)]; exact k1, k2, by rw [left β (by omega)]; exact k3, by rw [left v c]; exact k4, k5, fun x r x1 x2 x3 => ?_⟩
      rw [left x (by omega)] at x3
      exact k6 x r x1 x2 x3
    · obtain ⟨w, rfl⟩ : ∃ w, v = a.sz + 1 + w := ⟨v - (a.sz + 1), by omega⟩
      cases w with
      | zero =>
        refine ⟨0, 0, 1, ?_, by omega, by rw [left 0 (by omega)]; exact a.rg_head, by rw [right 0, b.rg_head]; rfl, by omega, fun x r x1 x2 x3 => ?_⟩
        · rw [hp, List.getElem?_append_right (by omega), show a.sz + 1 + 0 - 1 - a.pl.length = 0 by omega]
          rfl
        · rw [left x (by omega)] at x3
          obtain ⟨β, rb, rv, k1, k2, k3, k4, k5, k6⟩ := near a x (by omega) (by omega)
          rw [k4] at x3
          cases x3
          have := a.rg_nn rb (List.mem_of_getElem? k3)
          omega
      | succ w =>
        obtain ⟨β, rb, rv, k1, k2, k3, k4, k5, k6⟩ := near b (w + 1) (by omega) (by omega)
        refine ⟨a.sz + 1 + β, rb + 1, rv + 1, ?_, by omega, by rw [right, k3]; rfl, by rw [right, k4]; rfl, by omega, fun x r x1 x2 x3 => ?_⟩
        · rw [hp, List.getElem?_append_right (by omega), show a.sz + 1 + (w + 1) - 1 - a.pl.length = w + 1 by omega, List.getElem?_cons_succ, List.getElem?_map]
          rw [Nat.add_sub_cancel] at k1
          rw [k1]
          exact congrArg some (show a.cut + (β : Int) = ((a.sz + 1 + β : Nat) : Int) by unfold Tr.cut; omega)
        · obtain ⟨y, rfl⟩ : ∃ y, x = a.sz + 1 + y := ⟨x - (a.sz + 1), by omega⟩
          rw [right] at x3
          cases hy : b.rg'[y]? with
          | none => rw [hy] at x3; cases x3
          | some z =>
            rw [hy] at x3
            cases x3
            have := k6 y z (by omega) (by omega) hy
            show rv + 1 ≤ z + 1
            omega
theorem Tr.rg_pos (t : Tr) {x : Nat} {r : Int} (h : t.rg'[x]? = some r) (hx : 1 ≤ x) : 1 ≤ r := by
  have hl := (List.getElem?_eq_some_iff.mp h).1
  rw [t.rg_len] at hl
  obtain ⟨β, rb, rv, k1, k2, k3, k4, k5, k6⟩ := t.near x hx (by omega)
  rw [k4] at h
  cases h
  have := t.rg_nn rb (List.mem_of_getElem? k3)
  omega
end DL
namespace K24
open PySem PySem.Spec PyProof.Rows L2 DL
abbrev sM : Str := "-"
abbrev sP : Str := "+"
def trk : Tr → List Str
  | .lf => [sM]
  | .nd a b => sP :: trk a ++ trk b
theorem trk_len : ∀ t : Tr, (trk t).length = 2 * t.sz + 1
  | .lf => rfl
  | .nd a b => by
    show (sP :: trk a ++ trk b).length = 2 * (a.sz + b.sz + 1) + 1
    rw [List.length_append, List.length_cons, trk_len a, trk_len b]
    omega
theorem trk_one : ∀ (t : Tr), ∀ y ∈ trk t, y.length = 1
  | .lf, y, h => by
    have : y = sM := by simpa [trk] using h
    subst this
    rfl
  | .nd a b, y, h => by
    rcases List.mem_append.mp (show y ∈ (sP :: trk a) ++ trk b from h) with h | h
    · rcases List.mem_cons.mp h with h | h
      · subst h
        rfl
      · exact trk_one a y h
    · exact trk_one b y h
theorem trk_sign : ∀ (t : Tr), ∀ y ∈ trk t, y = sM ∨ y = sP
  | .lf, y, h => .inl (by simpa [trk] using h)
  | .nd a b, y, h => by
    rcases List.mem_append.mp (show y ∈ (sP :: trk a) ++ trk b from h) with h | h
    · rcases List.mem_cons.mp h with h | h
      · exact .inr h
      · exact trk_sign a y h
    · exact trk_sign b y h
/-- the track -/
def trS (t : Tr) : Str := Txt.join (Str.ofString "") (trk t)
theorem trS_signs (t : Tr) : DL.signs (trS t) = trk t := signs_join (trk_one t)
theorem trS_len (t : Tr) : (trS t).length = 2 * t.sz + 1 := by
  unfold trS
  rw [join_len (trk_one t), trk_len]
theorem p_mm : bD (p_eq (PyData.str ("-" : Str)) (PyData.str ("-" : Str))) = some true := by kernel_rfl
theorem p_pm : bD (p_eq (PyData.str ("+" : Str)) (PyData.str ("-" : Str))) = some false := by kernel_rfl
theorem is_num {i : Int} (h : 0 ≤ i) : f_is_number (PyData.int i) = some true := by
  unfold f_is_number f_is_integer
  refine bs (a := true) (bs (a := true) rfl (bs (a := true) (andT1 (bs (a := false) rfl rfl)) rfl)) (bs (a := true) (andT1 (bs (a := true) ?_ rfl)) rfl)
  rw [bD_ge, decide_eq_true h]
theorem no_num {i : Int} (h : i < 0) : f_is_number (PyData.int i) = some false := by
  unfold f_is_number f_is_integer
  refine bs (a := true) (bs (a := true) rfl (bs (a := true) (andT1 (bs (a := false) rfl rfl)) rfl)) (bs (a := false) (andT1 (bs (a := false) ?_ rfl)) rfl)
  rw [bD_ge, decide_eq_false (by omega)]
theorem put_b {a b : Tr} (h : a.sz + b.sz ≤ 1000000) : f_put_beside a.pl b.pl = some (Tr.nd a b).pl := by
  unfold f_put_beside
  have la := a.pl_len
  have lb := b.pl_len
  refine bs rfl (bs (catO_ok (by rw [la]; show a.sz + 1 ≤ _; omega)) (bs (lcC_map (by omega) fun x _ => rfl) (bs (catO_ok ?_) ?_)))
  · rw [List.length_append, List.length_map, la, lb]
    show a.sz + 1 + b.sz ≤ _
    omega
  · congr 1
    show (a.pl ++ [0]) ++ b.pl.map _ = a.pl ++ 0 :: b.pl.map _
    rw [List.append_assoc]
    congr 1
    show 0 :: b.pl.map _ = _
    congr 1
    refine List.map_congr_left fun x _ => ?_
    show (a.pl.length : Int) + 1 + x = a.cut + x
    rw [la]
    rfl
def en {α : Type} : Nat → List α → List (Int × α)
  | _, [] => []
  | k, a :: l => ((k : Int), a) :: en (k + 1) l
theorem en_app {α : Type} : ∀ (k : Nat) (l m : List α), en k (l ++ m) = en k l ++ en (k + l.length) m
  | k, [], m => by simp [en]
  | k, a :: l, m => by
    show ((k : Int), a) :: en (k + 1) (l ++ m) = ((k : Int), a) :: (en (k + 1) l ++ en (k + (l.length + 1)) m)
    rw [en_app (k + 1) l m, show k + 1 + l.length = k + (l.length + 1) by omega]
theorem en_range {α : Type} : ∀ (l : List α) (k : Nat), List.zipWith (fun (i : Nat) a => (((i + 1 : Nat) : Int), a)) (List.range' k l.length) l = en (k + 1) l
  | [], k => rfl
  | a :: l, k => by
    rw [List.length_cons, List.range'_succ, List.zipWith_cons_cons, en_range l (k + 1)]
    rfl
theorem en1 {α : Type} (l : List α) : enumL1 l = en 1 l := by
  unfold enumL1
  rw [List.range_eq_range']
  exact en_range l 0
theorem lastf_any (bases : List Int) : ∀ (l : List Int) (k : Nat) (f : Int), ∃ f', forS (fun x_1 (found_ : Int) => f_last_full_L1 bases x_1 found_) (en k l) f = some f'
  | [], _, f => ⟨f, rfl⟩
  | a :: l, k, f => by
    by_cases h : a = 0
    · obtain ⟨f', h'⟩ := lastf_any bases l (k + 1) (k : Int)
      exact ⟨f', forS_cons (by unfold f_last_full_L1; exact iT (decide_eq_true h) rfl) h'⟩
    · obtain ⟨f', h'⟩ := lastf_any bases l (k + 1) f
      exact ⟨f', forS_cons (by unfold f_last_full_L1; exact iF (decide_eq_false h) rfl) h'⟩
theorem lastf_no (bases : List Int) : ∀ (l : List Int) (k : Nat) (f : Int), (∀ x ∈ l, x ≠ 0) → forS (fun x_1 (found_ : Int) => f_last_full_L1 bases x_1 found_) (en k l) f = some f
  | [], _, f, _ => rfl
  | a :: l, k, f, h => forS_cons (by unfold f_last_full_L1; exact iF (decide_eq_false (h a List.mem_cons_self)) rfl) (lastf_no bases l (k + 1) f fun x m => h x (List.mem_cons_of_mem _ m))
theorem last_f (a b : Tr) : f_last_full (Tr.nd a b).pl = some a.cut := by
  unfold f_last_full
  obtain ⟨f', h'⟩ := lastf_any (Tr.nd a b).pl a.pl 1 0
  have e : enumL1 (Tr.nd a b).pl = en 1 a.pl ++ (((1 + a.sz : Nat) : Int), 0) :: en (1 + a.sz + 1) (b.pl.map fun x => a.cut + x) := by
    rw [en1, show (Tr.nd a b).pl = a.pl ++ 0 :: b.pl.map (fun x => a.cut + x) from rfl, en_app, a.pl_len]
    rfl
  refine bs rfl (bs (a := a.cut) ?_ rfl)
  rw [e]
  refine forS_to h' (forS_cons (s' := a.cut) ?_ (lastf_no _ _ _ _ fun x m => ?_))
  · unfold f_last_full_L1
    refine iT (decide_eq_true rfl) (bs rfl ?_)
    congr 1
    show ((1 + a.sz : Nat) : Int) = (a.sz : Int) + 1
    omega
  · obtain ⟨y, hy, rfl⟩ := List.mem_map.mp m
    have := b.pl_nn y hy
    have := a.cut_pos
    show a.cut + y ≠ 0
    omega
theorem parts_b {a b : Tr} (h : a.sz + b.sz ≤ 1000000) : f_ahead_and_behind (Tr.nd a b).pl = some (a.pl, b.pl) := by
  unfold f_ahead_and_behind
  have la := a.pl_len
  have lb := b.pl_len
  have e : (Tr.nd a b).pl = a.pl ++ 0 :: b.pl.map fun x => a.cut + x := rfl
  have len : (Tr.nd a b).pl.length = a.sz + b.sz + 1 := (Tr.nd a b).pl_len
  have e1 : cutD (Tr.nd a b).pl none (some (a.cut - 1)) = a.pl := by
    rw [show a.cut - 1 = ((a.sz : Nat) : Int) by unfold Tr.cut; omega, cut_to (by omega), e, ← la, List.take_left]
  have e2 : cutD (Tr.nd a b).pl (some a.cut) none = b.pl.map fun x => a.cut + x := by
    have hc : a.cut = ((a.sz + 1 : Nat) : Int) := by unfold Tr.cut; omega
    rw [congrArg some hc, cut_from (by omega), e, List.drop_append, List.drop_eq_nil_of_le (by omega), la, show a.sz + 1 - a.sz = 1 by omega]
    rfl
  refine bs (last_f a b) (bs rfl (bs (a := b.pl) ?_ ?_))
  · rw [e2]
    rw [lcC_map (g' := fun x => x - a.cut) (by rw [List.length_map]; omega) fun x _ => rfl, List.map_map]
    congr 1
    rw [show ((fun x => x - a.cut) ∘ fun x => a.cut + x) = fun x : Int => x from by funext x; show a.cut + x - a.cut = x; omega]
    exact List.map_id' b.pl
  · rw [e1]
theorem bD_ne (a b : Int) : bD (p_ne (PyData.int a) (PyData.int b)) = some (!decide (a = b)) := by
  rw [o_ne (f := PyData.int) (by decide)]
  rfl
theorem pops (thing : PyData) (version base y : Int) (hy : y ≤ base) : ∀ (n : Nat) (R : List Int) (Q : List Int) (N : Nat), R.length = n → (∀ x ∈ R, base < x) → R.length < N →
    whS (fun (chain_ : List Int) => f_is_nested_L2c thing version (PyData.int base) chain_) (fun (chain_ : List Int) => f_is_nested_L2 thing version (PyData.int base) chain_) N (Q ++ [y] ++ R) = some (Q ++ [y])
  | 0, R, Q, N, hl, _, hN => by
    have : R = [] := List.length_eq_zero_iff.mp hl
    subst this
    obtain ⟨M, rfl⟩ : ∃ M, N = M + 1 := ⟨N - 1, by simp at hN; omega⟩
    rw [List.append_nil]
    refine whF ?_
    unfold f_is_nested_L2c
    refine bs (atI_end Q y) (bs (bD_gt y base) ?_)
    rw [decide_eq_false (by omega)]
  | n + 1, R, Q, N, hl, h, hN => by
    rcases List.eq_nil_or_concat R with h0 | ⟨R', x, h0⟩
    · rw [h0] at hl
      cases hl
    · rw [List.concat_eq_append] at h0
      rw [h0, List.length_append, List.length_singleton] at hl hN
      subst h0
      obtain ⟨M, rfl⟩ : ∃ M, N = M + 1 := ⟨N - 1, by omega⟩
      rw [← List.append_assoc]
      refine whT ?_ ?_ (pops thing version base y hy n R' Q M (by omega) (fun y m => h y (List.mem_append_left _ m)) (by omega))
      · unfold f_is_nested_L2c
        refine bs (atI_end _ x) (bs (bD_gt x base) ?_)
        rw [decide_eq_true (h x (List.mem_append_right _ (List.mem_singleton.mpr rfl)))]
      · unfold f_is_nested_L2
        exact bs (popO_ok _ _) rfl
/-- an ascending list, cut at x -/
theorem asc_cut : ∀ {l : List Int} (x : Int), l.Pairwise (· < ·) → l = l.filter (fun y => decide (y ≤ x)) ++ l.filter (fun y => decide (x < y))
  | [], _, _ => rfl
  | a :: l, x, p => by
    obtain ⟨p1, p2⟩ := List.pairwise_cons.mp p
    by_cases c : a ≤ x
    · rw [List.filter_cons, if_pos (decide_eq_true c), List.filter_cons, if_neg (by rw [decide_eq_false (by omega)]; exact Bool.false_ne_true), List.cons_append, ← asc_cut x p2]
    · have e : (a :: l).filter (fun y => decide (y ≤ x)) = [] := List.filter_eq_nil_iff.mpr fun y m => by
        rcases List.mem_cons.mp m with m | m
        · subst m
          simpa using c
        · have := p1 y m
          simp
          omega
      rw [e, List.nil_append]
      refine (List.filter_eq_self.mpr fun y m => ?_).symm
      rcases List.mem_cons.mp m with m | m
      · subst m
        exact decide_eq_true (by omega)
      · have := p1 y m
        exact decide_eq_true (by omega)
theorem nest_pop (thing : PyData) (version : Int) (u : Tr) (hu : u.sz ≤ 250) (x : Int) (hx : 0 ≤ x) : ∃ (Q : List Int) (y : Int), y ≤ x ∧ y ∈ u.ch ∧ Q ++ [y] = u.ch.filter (fun z => decide (z ≤ x)) ∧
    whS (fun (chain_ : List Int) => f_is_nested_L2c thing version (PyData.int x) chain_) (fun (chain_ : List Int) => f_is_nested_L2 thing version (PyData.int x) chain_) 300 u.ch = some (Q ++ [y]) := by
  have e := asc_cut x u.ch_pw
  have z : (0 : Int) ∈ u.ch.filter (fun z => decide (z ≤ x)) := List.mem_filter.mpr ⟨List.mem_of_getElem? u.ch_zero, decide_eq_true hx⟩
  rcases List.eq_nil_or_concat (u.ch.filter fun z => decide (z ≤ x)) with h | ⟨Q, y, h⟩
  · rw [h] at z
    cases z
  · rw [List.concat_eq_append] at h
    have my : y ∈ u.ch.filter (fun z => decide (z ≤ x)) := by rw [h]; exact List.mem_append_right _ (List.mem_singleton.mpr rfl)
    obtain ⟨m1, m2⟩ := List.mem_filter.mp my
    have hy := of_decide_eq_true m2
    refine ⟨Q, y, hy, m1, h.symm, ?_⟩
    have k := pops thing version x y hy _ (u.ch.filter fun z => decide (x < z)) Q 300 rfl (fun w m => of_decide_eq_true (List.mem_filter.mp m).2) (by
      have := List.length_filter_le (fun z => decide (x < z)) u.ch
      have := u.ch_len
      omega)
    rw [show Q ++ [y] ++ u.ch.filter (fun z => decide (x < z)) = u.ch by rw [← h]; exact e.symm] at k
    exact k
theorem nest_step (thing : PyData) (u : Tr) (x : Int) (hu : u.sz ≤ 250) (hx : x ∈ u.ch) : f_is_nested_L1 thing (PyData.int x) u.ch (u.sz : Int) = some (.nx ((u.app (u.ch.idxOf x)).ch, (((u.app (u.ch.idxOf x)).sz : Nat) : Int))) := by
  have x0 := u.ch_nn x hx
  obtain ⟨Q, y, h1, h2, h3, h4⟩ := nest_pop thing ((u.sz : Int) + 1) u hu x x0
  have hl := List.idxOf_lt_length_of_mem hx
  have e1 : u.ch.filter (fun z => decide (z ≤ x)) = u.ch.take (u.ch.idxOf x + 1) := by
    have i := idx_of hx
    have sp : u.ch = u.ch.take (u.ch.idxOf x + 1) ++ u.ch.drop (u.ch.idxOf x + 1) := (List.take_append_drop _ _).symm
    have pw := u.ch_pw
    conv => lhs; rw [sp]
    rw [List.filter_append, List.filter_eq_self.mpr, List.filter_eq_nil_iff.mpr, List.append_nil]
    · intro z m
      obtain ⟨k, hk⟩ := List.mem_iff_getElem?.mp m
      rw [List.getElem?_drop] at hk
      obtain ⟨g1, g2⟩ := List.getElem?_eq_some_iff.mp hk
      obtain ⟨i1, i2⟩ := List.getElem?_eq_some_iff.mp i
      have := List.pairwise_iff_getElem.mp pw _ _ i1 g1 (by omega)
      simp
      omega
    · intro z m
      obtain ⟨k, hk⟩ := List.mem_iff_getElem?.mp m
      have kl := (List.getElem?_eq_some_iff.mp hk).1
      rw [List.length_take] at kl
      rw [List.getElem?_take_of_lt (by omega)] at hk
      obtain ⟨g1, g2⟩ := List.getElem?_eq_some_iff.mp hk
      obtain ⟨i1, i2⟩ := List.getElem?_eq_some_iff.mp i
      by_cases c : k = u.ch.idxOf x
      · subst c
        exact decide_eq_true (by omega)
      · have := List.pairwise_iff_getElem.mp pw _ _ g1 i1 (by omega)
        exact decide_eq_true (by omega)
  have e2 : y = x := by
    have my : x ∈ u.ch.filter (fun z => decide (z ≤ x)) := List.mem_filter.mpr ⟨hx, decide_eq_true (Int.le_refl _)⟩
    have pf : (u.ch.filter (fun z => decide (z ≤ x))).Pairwise (· < ·) := List.Pairwise.filter _ u.ch_pw
    rw [← h3] at my pf
    rcases List.mem_append.mp my with m | m
    · have := (List.pairwise_append.mp pf).2.2 x m y (List.mem_singleton.mpr rfl)
      omega
    · exact (List.mem_singleton.mp m).symm
  subst e2
  unfold f_is_nested_L1
  refine bs rfl (bs (is_num x0) (iF rfl (bs h4 (bs (atI_end Q y) (bs (bD_ne y y) (iF (ne_no rfl) (bs (appO_ok ?_) ?_)))))))
  · rw [h3]
    have := List.length_filter_le (fun z => decide (z ≤ y)) u.ch
    have := u.ch_len
    omega
  · rw [u.app_sz _ hl, u.ch_app _ hl, h3, e1]
    rfl
theorem nest_bad (thing : PyData) (u : Tr) (x : Int) (hu : u.sz ≤ 250) (hx : ¬ x ∈ u.ch) : f_is_nested_L1 thing (PyData.int x) u.ch (u.sz : Int) = some (.rt false) := by
  unfold f_is_nested_L1
  by_cases x0 : x < 0
  · exact bs rfl (bs (no_num x0) (iT rfl rfl))
  · obtain ⟨Q, y, h1, h2, h3, h4⟩ := nest_pop thing ((u.sz : Int) + 1) u hu x (by omega)
    have ne : ¬ y = x := fun z => hx (by rw [← z]; exact h2)
    refine bs rfl (bs (is_num (by omega)) (iF rfl (bs h4 (bs (atI_end Q y) (bs (bD_ne y x) (iT ?_ rfl))))))
    rw [decide_eq_false ne]
    rfl
theorem nestG (thing : PyData) : ∀ (l : List Int) (m : List PyData) (u t : Tr), u.grow l = some t → u.sz + l.length ≤ 251 →
    forG (fun x_1 (s_ : List Int × Int) => f_is_nested_L1 thing x_1 s_.1 s_.2) (l.map PyData.int ++ m) (u.ch, (u.sz : Int)) = forG (fun x_1 (s_ : List Int × Int) => f_is_nested_L1 thing x_1 s_.1 s_.2) m (t.ch, (t.sz : Int))
  | [], m, u, t, h, _ => by
    cases h
    rfl
  | x :: l, m, u, t, h, hl => by
    rw [List.length_cons] at hl
    have h : (if x ∈ u.ch then Tr.grow (u.app (u.ch.idxOf x)) l else none) = some t := h
    by_cases c : x ∈ u.ch
    · rw [if_pos c] at h
      have sz := u.app_sz _ (List.idxOf_lt_length_of_mem c)
      exact forG_cons (nest_step thing u x (by omega) c) (nestG thing l m _ t h (by omega))
    · rw [if_neg c] at h
      cases h
theorem nestB (thing : PyData) : ∀ (l : List Int) (m : List PyData) (u : Tr), u.grow l = none → u.sz + l.length ≤ 251 →
    forG (fun x_1 (s_ : List Int × Int) => f_is_nested_L1 thing x_1 s_.1 s_.2) (l.map PyData.int ++ m) (u.ch, (u.sz : Int)) = some (.rt false)
  | [], m, u, h, _ => by cases h
  | x :: l, m, u, h, hl => by
    rw [List.length_cons] at hl
    have h : (if x ∈ u.ch then Tr.grow (u.app (u.ch.idxOf x)) l else none) = none := h
    by_cases c : x ∈ u.ch
    · rw [if_pos c] at h
      have sz := u.app_sz _ (List.idxOf_lt_length_of_mem c)
      exact forG_cons (nest_step thing u x (by omega) c) (nestB thing l m _ h (by omega))
    · show (f_is_nested_L1 thing (PyData.int x) u.ch (u.sz : Int)).bind _ = _
      rw [nest_bad thing u x (by omega) c]
      rfl
/-- .. of a tuple that begins with ints -/
theorem nested_t {ds : List PyData} {r : Option (Lp (List Int × Int) Bool)} (h : forG (fun x_1 (s_ : List Int × Int) => f_is_nested_L1 (.tuple ds) x_1 s_.1 s_.2) ds (Tr.lf.ch, (Tr.lf.sz : Int)) = r) : f_is_nested (.tuple ds) = thenL r (fun r_ => some r_) fun _ => some true := by
  unfold f_is_nested
  refine bs (a := true) rfl (iF rfl (bs rfl (bs rfl (bs (a := ds) rfl ?_))))
  rw [← h]
  rfl
theorem nested_l {l : List Int} (hl : l.length ≤ 251) : f_is_nested ((tp PyData.int) l) = some (Tr.lf.grow l).isSome := by
  have hz : Tr.lf.sz = 0 := rfl
  show f_is_nested (.tuple (l.map PyData.int)) = _
  cases h : Tr.lf.grow l with
  | some t =>
    have k := nestG (.tuple (l.map PyData.int)) l [] Tr.lf t h (by omega)
    rw [List.append_nil] at k
    rw [nested_t k]
    rfl
  | none =>
    have k := nestB (.tuple (l.map PyData.int)) l [] Tr.lf h (by omega)
    rw [List.append_nil] at k
    rw [nested_t k]
    rfl
theorem is_nest {t : Tr} (h : t.sz ≤ 250) : f_is_nested ((tp PyData.int) t.pl) = some true := by
  rw [nested_l (by rw [t.pl_len]; omega), Tr.grow_of t.sz t rfl]
  rfl
theorem n_plan {w : Str} {t : Tr} (h : t.sz ≤ 250) : f_need_plan w t.pl = some () := by
  unfold f_need_plan
  exact bs (is_nest h) (iF rfl rfl)
theorem trk_go : ∀ (t : Tr) (N : Nat) (S : List Str) (W : List (List Int)), S.length + 2 * t.sz ≤ 1000000 → W.length + t.sz ≤ 1000000 →
    whS (fun (s_ : List Str × List (List Int)) => f_track_of_L1c s_.1 s_.2) (fun (s_ : List Str × List (List Int)) => f_track_of_L1 s_.1 s_.2) (N + (2 * t.sz + 1)) (S, W ++ [t.pl])
      = whS (fun (s_ : List Str × List (List Int)) => f_track_of_L1c s_.1 s_.2) (fun (s_ : List Str × List (List Int)) => f_track_of_L1 s_.1 s_.2) N (S ++ trk t, W)
  | .lf, N, S, W, h1, h2 => by
    refine whT ?_ ?_ rfl
    · unfold f_track_of_L1c
      rw [decide_eq_true (by rw [List.length_append, List.length_singleton]; omega)]
    · unfold f_track_of_L1
      refine bs (popO_ok _ _) (bs rfl (iT rfl (bs (appO_ok (by dsimp only; omega)) rfl)))
  | .nd a b, N, S, W, h1, h2 => by
    have hz : (Tr.nd a b).sz = a.sz + b.sz + 1 := rfl
    rw [hz] at h1 h2
    rw [hz, show N + (2 * (a.sz + b.sz + 1) + 1) = ((N + (2 * b.sz + 1)) + (2 * a.sz + 1)) + 1 by omega]
    refine whT (s' := (S ++ [sP], (W ++ [b.pl]) ++ [a.pl])) ?_ ?_ ?_
    · unfold f_track_of_L1c
      rw [decide_eq_true (by rw [List.length_append, List.length_singleton]; omega)]
    · unfold f_track_of_L1
      refine bs (popO_ok _ _) (bs rfl (iF ?_ (bs (parts_b (by omega)) (bs (appO_ok (by dsimp only; omega)) (bs (appO_ok (by dsimp only; omega)) (bs (appO_ok ?_) rfl))))))
      · refine decide_eq_false ?_
        rw [(Tr.nd a b).pl_len, hz]
        omega
      · rw [List.length_append, List.length_singleton]
        dsimp only
        omega
    · rw [trk_go a (N + (2 * b.sz + 1)) (S ++ [sP]) (W ++ [b.pl]) (by rw [List.length_append, List.length_singleton]; omega) (by rw [List.length_append, List.length_singleton]; omega)]
      rw [trk_go b N (S ++ [sP] ++ trk a) W (by rw [List.length_append, List.length_append, List.length_singleton, trk_len]; omega) (by omega)]
      show whS _ _ N (S ++ [sP] ++ trk a ++ trk b, W) = whS _ _ N (S ++ (sP :: trk a ++ trk b), W)
      rw [List.append_assoc, List.append_assoc]
      rfl
theorem track_t {t : Tr} (h : t.sz ≤ 140) : f_track_of t.pl = some (trS t) := by
  unfold f_track_of
  have k := trk_go t (300 - (2 * t.sz + 1)) [] [] (by simp; omega) (by simp; omega)
  rw [show 300 - (2 * t.sz + 1) + (2 * t.sz + 1) = 300 by omega] at k
  refine bs (n_plan (by omega)) (bs rfl (bs rfl (bs (a := (trk t, [])) ?_ (bs (a := trS t) ?_ rfl))))
  · refine Eq.trans k ?_
    obtain ⟨M, hM⟩ : ∃ M, 300 - (2 * t.sz + 1) = M + 1 := ⟨300 - (2 * t.sz + 1) - 1, by omega⟩
    rw [hM]
    exact whF rfl
  · unfold joinSO joinOk
    rw [if_pos (decide_eq_true ?_)]
    · rfl
    · have : ((trk t).map fun y => y.length).sum = (trk t).length := by
        have go : ∀ l : List Str, (∀ y ∈ l, y.length = 1) → (l.map fun y => y.length).sum = l.length := fun l => by
          induction l with
          | nil => intro _; rfl
          | cons y l ih =>
            intro h
            rw [List.map_cons, List.sum_cons, h y List.mem_cons_self, ih fun z m => h z (List.mem_cons_of_mem _ m), List.length_cons]
            omega
        exact go _ (trk_one t)
      show ((trk t).map fun y => y.length).sum + (trk t).length * ("" : Str).length ≤ _
      rw [this, trk_len, show ("" : Str).length = 0 from rfl]
      omega
def side (m : Bool) (t : Tr) : Tr := if m = true then t.mir else t
theorem side_sz (m : Bool) (t : Tr) : (side m t).sz = t.sz := by
  unfold side
  split
  · exact t.mir_sz
  · rfl
theorem built_go (track : Str) (m : Bool) : ∀ (t : Tr) (H : List (List Int)), H.length + t.sz ≤ 1000000 →
    forS (fun x_1 (held_ : List (List Int)) => f_built_L1 track m x_1 held_) (trk t).reverse H = some (H ++ [(side m t).pl])
  | .lf, H, h => by
    refine forS_cons (s' := H ++ [[]]) ?_ ?_
    · unfold f_built_L1
      exact bs p_mm (iT rfl (bs (appO_ok (by omega)) rfl))
    · cases m <;> rfl
  | .nd a b, H, h => by
    have hz : (Tr.nd a b).sz = a.sz + b.sz + 1 := rfl
    rw [hz] at h
    show forS _ ((sP :: trk a) ++ trk b).reverse H = _
    rw [List.reverse_append, List.reverse_cons]
    refine forS_to (built_go track m b H (by omega)) (forS_to (built_go track m a (H ++ [(side m b).pl]) (by rw [List.length_append, List.length_singleton]; omega)) (forS_cons (s' := H ++ [(side m (.nd a b)).pl]) ?_ rfl))
    unfold f_built_L1
    refine bs p_pm (iF rfl (bs (popO_ok _ _) (bs rfl (bs (popO_ok _ _) (bs rfl ?_)))))
    have sa := side_sz m a
    have sb := side_sz m b
    cases m with
    | true => exact iT rfl (bs (put_b (by omega)) (bs (appO_ok (by dsimp only; omega)) rfl))
    | false => exact iF rfl (bs (put_b (by omega)) (bs (appO_ok (by dsimp only; omega)) rfl))
theorem built_t {t : Tr} (m : Bool) (h : t.sz ≤ 100000) : f_built (trS t) m = some (side m t).pl := by
  unfold f_built
  refine bs rfl (bs (a := revS (trS t)) ?_ (bs (a := [(side m t).pl]) ?_ (bs (a := (side m t).pl) rfl rfl)))
  · unfold revSO
    rw [if_pos (okLen_yes (by rw [trS_len]; omega))]
  · rw [signs_rev, trS_signs]
    exact built_go (trS t) m t [] (by simp; omega)
theorem mirr_t {t : Tr} (h : t.sz ≤ 140) : f_mirrored t.pl = some t.mir.pl := by
  unfold f_mirrored
  exact bs (track_t h) (bs (built_t true (by omega)) rfl)
end K24
namespace K24
open PySem PySem.Spec PyProof.Rows L2 DL
theorem rd_go {body : Int → List Int → Option (List Int)} (hb : ∀ x r, body x r = (atI r x).bind fun t3 => (appO r (t3 + (1 : Int))).bind fun r4 => some r4) : ∀ (t : Tr) (P : List Int) (r0 : Int), P.length + t.sz ≤ 1000000 →
    forS body (t.pl.map fun x => (P.length : Int) + x) (P ++ [r0]) = some (P ++ t.rg'.map fun x => r0 + x)
  | .lf, P, r0, _ => by
    show some (P ++ [r0]) = some (P ++ [r0 + 0])
    rw [Int.add_zero]
  | .nd a b, P, r0, h => by
    have hz : (Tr.nd a b).sz = a.sz + b.sz + 1 := rfl
    rw [hz] at h
    have e : (Tr.nd a b).pl.map (fun x => (P.length : Int) + x) = a.pl.map (fun x => (P.length : Int) + x) ++ (P.length : Int) :: b.pl.map (fun x => ((P ++ a.rg'.map fun x => r0 + x).length : Int) + x) := by
      show (a.pl ++ 0 :: b.pl.map fun x => a.cut + x).map _ = _
      rw [List.map_append, List.map_cons, List.map_map, Int.add_zero, List.length_append, List.length_map, a.rg_len]
      congr 2
      refine List.map_congr_left fun x _ => ?_
      show (P.length : Int) + (a.cut + x) = _
      unfold Tr.cut
      omega
    rw [e]
    refine forS_to (rd_go hb a P r0 (by omega)) (forS_cons (s' := (P ++ a.rg'.map fun x => r0 + x) ++ [r0 + 1]) ?_ ?_)
    · rw [hb]
      refine bs (a := r0) ?_ (bs (appO_ok ?_) rfl)
      · rw [atI_nn, List.getElem?_append_right (Nat.le_refl _), Nat.sub_self, List.getElem?_map, a.rg_head]
        show some (r0 + 0) = some r0
        rw [Int.add_zero]
      · rw [List.length_append, List.length_map, a.rg_len]
        omega
    · rw [rd_go hb b (P ++ a.rg'.map fun x => r0 + x) (r0 + 1) (by rw [List.length_append, List.length_map, a.rg_len]; omega), List.append_assoc]
      congr 2
      show _ = (a.rg' ++ b.rg'.map (· + 1)).map _
      rw [List.map_append, List.map_map]
      congr 1
      refine List.map_congr_left fun x _ => ?_
      show r0 + 1 + x = r0 + (x + 1)
      omega
theorem rd_all {body : Int → List Int → Option (List Int)} (hb : ∀ x r, body x r = (atI r x).bind fun t3 => (appO r (t3 + (1 : Int))).bind fun r4 => some r4) {t : Tr} (h : t.sz ≤ 100000) : forS body t.pl [(0 : Int)] = some t.rg' := by
  have rd := rd_go hb t [] 0 (by simp; omega)
  rw [show t.pl.map (fun x => (([] : List Int).length : Int) + x) = t.pl from by
      rw [show (fun x : Int => (([] : List Int).length : Int) + x) = fun x => x from by funext x; show ((0 : Nat) : Int) + x = x; omega]
      exact List.map_id' _,
    show t.rg'.map (fun x => (0 : Int) + x) = t.rg' from by
      rw [show (fun x : Int => (0 : Int) + x) = fun x => x from by funext x; omega]
      exact List.map_id' _] at rd
  exact rd
theorem w_reads {t : Tr} (h : t.sz ≤ 100000) : f_w_reads t.pl = some t.rg' := by
  unfold f_w_reads
  exact bs rfl (bs (rd_all (fun x r => rfl) h) rfl)
theorem v_reads {t : Tr} (h : t.sz ≤ 250) : f_line_reads t.pl = some t.rg' := by
  unfold f_line_reads
  exact bs (n_plan h) (bs rfl (bs (rd_all (fun x r => rfl) (by omega)) rfl))
def Tr.wrt (t : Tr) : List Int := t.lf'.take t.sz
theorem wrt_len (t : Tr) : (Tr.wrt t).length = t.sz := by
  unfold Tr.wrt
  rw [List.length_take, t.lf_len]
  omega
theorem count_sum (e : Int) : ∀ l : List Int, (l.map fun x => if decide (x < e) = true then (1 : Int) else 0).sum = (ltN e l : Int)
  | [] => rfl
  | a :: l => by
    rw [List.map_cons, List.sum_cons, count_sum e l, ltN_cons]
    by_cases c : a < e
    · rw [if_pos (decide_eq_true c), if_pos c]
      omega
    · rw [if_neg (by rw [decide_eq_false c]; exact Bool.false_ne_true), if_neg c]
      omega
theorem w_writes {t : Tr} (h : t.sz ≤ 100000) : f_w_writes t.pl = some (Tr.wrt t) := by
  unfold f_w_writes
  have len := t.pl_len
  refine bs (a := (List.range t.sz).map fun k => ((k + 1 : Nat) : Int)) ?_ (bs (a := Tr.wrt t) ?_ rfl)
  · rw [len]
    exact rngO_1 (by omega)
  · unfold Tr.wrt
    rw [← t.wrs]
    refine lcC_rg (by omega) fun k hk => ?_
    refine bs (a := (List.range (t.sz + 1 - (k + 1))).map fun j => ((k + 1 + j : Nat) : Int)) (by rw [len]; exact rngO_v (by omega) (by omega)) (bs (a := (List.range (t.sz + 1 - (k + 1))).map fun j => if decide (gv (t.pl.drop k) (j + 1) < ((k : Int) + 1)) = true then (1 : Int) else 0) (lcC_rg (by omega) fun j hj => ?_) ?_)
    · refine bs (a := gv (t.pl.drop k) (j + 1)) ?_ ?_
      · rw [show ((k + 1 + j : Nat) : Int) - 1 = ((k + j : Nat) : Int) by omega, atI_nn]
        have : (t.pl.drop k)[j]? = some (gv (t.pl.drop k) (j + 1)) := gv_get (by rw [List.length_drop, len]; omega)
        rw [← this, List.getElem?_drop]
      · rw [show ((k + 1 : Nat) : Int) = (k : Int) + 1 by omega]
    · congr 1
      rw [← count_sum]
      congr 1
      have e := l_rg (t.pl.drop k)
      rw [List.length_drop, len] at e
      rw [show t.sz + 1 - (k + 1) = t.sz - k by omega]
      conv => rhs; rw [e]
      rw [List.map_map]
      rfl
/-- the program's own counting -/
theorem incr (bases : List Int) (v b : Int) (n : Nat) : ∀ (m lo : Nat) (g : Nat → Int), lo + m ≤ n → forS (fun x_2 (writes_ : List Int) => f_line_writes_L2 bases v b x_2 writes_) ((List.range' lo m).map fun (k : Nat) => (k : Int)) ((List.range n).map g) = some ((List.range n).map fun p => if lo ≤ p ∧ p < lo + m then g p + 1 else g p)
  | 0, lo, g, _ => by
    show some ((List.range n).map g) = _
    congr 1
    refine List.map_congr_left fun p _ => ?_
    rw [if_neg (by omega)]
  | m + 1, lo, g, h => by
    rw [List.range'_succ, List.map_cons]
    refine forS_cons (s' := (List.range n).map fun p => if p = lo then g p + 1 else g p) ?_ ?_
    · unfold f_line_writes_L2
      refine bs (atI_rg (by omega)) (bs (putO_at (by rw [List.length_map, List.length_range]; omega)) ?_)
      congr 1
      apply List.ext_getElem?
      intro i
      rw [List.getElem?_set, List.length_map, List.length_range, List.getElem?_map, List.getElem?_map]
      by_cases hi : i < n
      · rw [List.getElem?_range hi]
        by_cases c : lo = i
        · subst c
          rw [if_pos rfl, if_pos hi]
          show some (g lo + 1) = some (if lo = lo then g lo + 1 else g lo)
          rw [if_pos rfl]
        · rw [if_neg c]
          show some (g i) = some (if i = lo then g i + 1 else g i)
          rw [if_neg (fun z => c z.symm)]
      · rw [List.getElem?_eq_none (l := List.range n) (by rw [List.length_range]; omega)]
        by_cases c : lo = i
        · rw [if_pos c, if_neg (show ¬ lo < n by omega)]
          rfl
        · rw [if_neg c]
          rfl
    · rw [incr bases v b n m (lo + 1) (fun p => if p = lo then g p + 1 else g p) (by omega)]
      congr 1
      refine List.map_congr_left fun p _ => ?_
      by_cases c : p = lo
      · subst c
        rw [if_neg (by omega), if_pos rfl, if_pos (by omega)]
      · rw [if_neg c]
        by_cases d : lo + 1 ≤ p ∧ p < lo + 1 + m
        · rw [if_pos d, if_pos (by omega)]
        · rw [if_neg d, if_neg (by omega)]
theorem v_writes {t : Tr} (h : t.sz ≤ 250) : f_line_writes t.pl = some (Tr.wrt t) := by
  unfold f_line_writes
  have len := t.pl_len
  have e1 : enumL1 t.pl = (List.range t.sz).map fun (k : Nat) => (((k + 1 : Nat) : Int), gv t.pl (k + 1)) := by
    unfold enumL1
    apply List.ext_getElem?
    intro i
    rw [List.getElem?_zipWith, List.getElem?_map, len]
    by_cases hi : i < t.sz
    · rw [List.getElem?_range hi, gv_get (l := t.pl) (by omega)]
      rfl
    · rw [List.getElem?_eq_none (l := List.range t.sz) (by rw [List.length_range]; omega)]
      rfl
  have run := forS_n (n := t.sz) (f := fun (k : Nat) => (((k + 1 : Nat) : Int), gv t.pl (k + 1))) (S := fun k => (List.range t.sz).map fun (p : Nat) => (ltN ((p : Int) + 1) ((t.pl.take k).drop p) : Int)) (body := fun x_1 (writes_ : List Int) => f_line_writes_L1 t.pl x_1 writes_) fun k hk => by
    unfold f_line_writes_L1
    obtain ⟨b, rb, rv, k1, k2, _⟩ := t.near (k + 1) (by omega) (by omega)
    rw [Nat.add_sub_cancel] at k1
    have gb : gv t.pl (k + 1) = (b : Int) := by
      have := gv_get (l := t.pl) (k := k) (by omega)
      rw [k1] at this
      exact (Option.some.inj this).symm
    dsimp only
    rw [gb]
    refine bs (a := (List.range' b (k + 1 - b)).map fun (j : Nat) => (j : Int)) ?_ (bs (incr t.pl _ _ t.sz (k + 1 - b) b _ (by omega)) ?_)
    · have := rngO_v (v := b) (n := k) (by omega) (by omega)
      rw [show ((k : Int) + 1) = ((k + 1 : Nat) : Int) by omega] at this
      rw [this, List.range'_eq_map_range, List.map_map]
      rfl
    · congr 1
      refine List.map_congr_left fun p hp => ?_
      have hp := List.mem_range.mp hp
      have tk : t.pl.take (k + 1) = t.pl.take k ++ [(b : Int)] := by
        rw [List.take_add_one, k1]
        rfl
      rw [tk]
      by_cases c : p ≤ k
      · rw [List.drop_append_of_le_length (by rw [List.length_take]; omega), ltN_app, ltN_cons]
        have z : ltN ((p : Int) + 1) [] = 0 := rfl
        by_cases d : b ≤ p
        · rw [if_pos (by omega), if_pos (by omega), z]
          omega
        · rw [if_neg (by omega), if_neg (by omega), z]
          omega
      · rw [if_neg (by omega), List.drop_eq_nil_of_le (by rw [List.length_take]; omega), List.drop_eq_nil_of_le (by rw [List.length_append, List.length_take, List.length_singleton]; omega)]
  have s0 : ((List.range t.sz).map fun (p : Nat) => (ltN ((p : Int) + 1) ((t.pl.take 0).drop p) : Int)) = t.pl.map fun _ => (0 : Int) := by
    apply List.ext_getElem?
    intro i
    rw [List.getElem?_map, List.getElem?_map, List.take_zero]
    simp only [List.drop_nil]
    by_cases hi : i < t.sz
    · rw [List.getElem?_range hi, List.getElem?_eq_getElem (l := t.pl) (by omega)]
      rfl
    · rw [List.getElem?_eq_none (l := List.range t.sz) (by rw [List.length_range]; omega), List.getElem?_eq_none (l := t.pl) (by omega)]
      rfl
  have sn : ((List.range t.sz).map fun (p : Nat) => (ltN ((p : Int) + 1) ((t.pl.take t.sz).drop p) : Int)) = Tr.wrt t := by
    rw [List.take_of_length_le (by omega)]
    exact t.wrs
  rw [s0, sn] at run
  rw [e1]
  exact bs (n_plan h) (bs (lcC_map (g' := fun _ => (0 : Int)) (by omega) fun _ _ => rfl) (bs run rfl))
/-- plans by reads -/
theorem w_by {t : Tr} (h : t.sz ≤ 100000) : f_w_by_reads t.rg' = some t.pl := by
  unfold f_w_by_reads
  have len := t.pl_len
  have rl := t.rg_len
  have ar : ∀ k : Nat, atI t.rg' (k : Int) = t.rg'[k]? := fun k => atI_nn
  have run := forS_n (n := t.sz) (f := fun (k : Nat) => ((k + 1 : Nat) : Int)) (S := fun k => t.pl.take k) (body := fun x_1 (found_ : List Int) => f_w_by_reads_L1 t.rg' x_1 found_) fun k hk => by
    unfold f_w_by_reads_L1
    obtain ⟨b, rb, rv, k1, k2, k3, k4, k5, k6⟩ := t.near (k + 1) (by omega) (by omega)
    rw [Nat.add_sub_cancel] at k1
    have go : ∀ (m : Nat) (N : Nat), b + m ≤ k → m < N → whS (fun (base_ : Int) => f_w_by_reads_L2c t.rg' (t.pl.take k) ((k + 1 : Nat) : Int) base_) (fun (base_ : Int) => f_w_by_reads_L2 t.rg' (t.pl.take k) ((k + 1 : Nat) : Int) base_) N ((b + m : Nat) : Int) = some (b : Int) := fun m => by
      induction m with
      | zero =>
        intro N _ hN
        obtain ⟨M, rfl⟩ : ∃ M, N = M + 1 := ⟨N - 1, by omega⟩
        refine whF ?_
        unfold f_w_by_reads_L2c
        refine bs (a := false) ?_ rfl
        by_cases c : b = 0
        · subst c
          rfl
        · show (if decide ((0 : Int) < ((b + 0 : Nat) : Int)) = true then _ else _) = _
          rw [if_pos (decide_eq_true (by omega)), Nat.add_zero]
          refine bs (a := rb) (by rw [ar]; exact k3) (bs (a := rv) (by rw [ar]; exact k4) ?_)
          rw [decide_eq_false (by omega)]
      | succ m ih =>
        intro N hm hN
        obtain ⟨M, rfl⟩ : ∃ M, N = M + 1 := ⟨N - 1, by omega⟩
        obtain ⟨r, hr⟩ : ∃ r, t.rg'[b + (m + 1)]? = some r := ⟨_, List.getElem?_eq_getElem (by omega)⟩
        have := k6 (b + (m + 1)) r (by omega) (by omega) hr
        refine whT (s' := ((b + m : Nat) : Int)) ?_ ?_ (ih M (by omega) (by omega))
        · unfold f_w_by_reads_L2c
          refine bs (a := true) ?_ rfl
          refine andTT (decide_eq_true (by omega)) (bs (a := r) (by rw [ar]; exact hr) (bs (a := rv) (by rw [ar]; exact k4) ?_))
          rw [decide_eq_true this]
        · unfold f_w_by_reads_L2
          refine bs rfl ?_
          exact congrArg some (by omega)
    have g := go (k - b) (k + 1) (by omega) (by omega)
    rw [show b + (k - b) = k by omega] at g
    refine bs (a := (k : Int)) (congrArg some (by omega)) (bs (a := (b : Int)) ?_ (bs (appO_ok (by rw [List.length_take]; omega)) ?_))
    · rw [show ((k : Int)).toNat + 1 = k + 1 by omega]
      exact g
    · rw [List.take_add_one, k1]
      rfl
  rw [List.take_zero, List.take_of_length_le (by omega)] at run
  refine bs rfl (bs (a := (List.range t.sz).map fun (k : Nat) => ((k + 1 : Nat) : Int)) ?_ (bs run rfl))
  rw [rl]
  exact rngO_m (by omega) (by omega)
theorem v_cut (a b : Tr) (h : (Tr.nd a b).sz ≤ 250) : f_cut_of (Tr.nd a b).pl = some a.cut := by
  unfold f_cut_of
  refine bs (a := ()) ?_ (bs (last_f a b) rfl)
  unfold f_need_changes
  refine bs (n_plan h) (iF (decide_eq_false ?_) rfl)
  rw [(Tr.nd a b).pl_len]
  show ¬ (((a.sz + b.sz + 1 : Nat) : Int)) = 0
  omega
theorem v_parts (a b : Tr) (h : (Tr.nd a b).sz ≤ 250) : f_parts_of (Tr.nd a b).pl = some (a.pl, b.pl) := by
  unfold f_parts_of
  have hz : (Tr.nd a b).sz = a.sz + b.sz + 1 := rfl
  refine bs (a := ()) ?_ (bs (parts_b (by omega)) rfl)
  unfold f_need_changes
  refine bs (n_plan h) (iF (decide_eq_false ?_) rfl)
  rw [(Tr.nd a b).pl_len, hz]
  omega
theorem v_joined {a b : Tr} (ha : a.sz ≤ 250) (hb : b.sz ≤ 250) : f_joined_plans a.pl b.pl = some (Tr.nd a b).pl := by
  unfold f_joined_plans
  exact bs (n_plan ha) (bs (n_plan hb) (bs (put_b (by omega)) rfl))
end K24
namespace K24
open PySem PySem.Spec PyProof.Rows L2 DL
abbrev sS : Str := " "
/-- how many branches are missing behind some signs -/
def cnt : Nat → List Str → Option Nat
  | m, [] => some m
  | 0, _ :: _ => none
  | m + 1, w :: ws => if w = sP then cnt (m + 2) ws else if w = sM then cnt m ws else none
theorem ne_pm : ¬ (sM : Str) = sP := by decide
theorem ne_sp : ¬ (sS : Str) = sP := by decide
theorem ne_sm : ¬ (sS : Str) = sM := by decide
def Sg (z : Str) : Prop := ∀ w ∈ DL.signs z, w = sP ∨ w = sM ∨ w = sS
theorem parse : ∀ (ws : List Str) (m : Nat), cnt m ws = some 0 → ∃ ts : List Tr, ts.length = m ∧ ws = ts.flatMap trk
  | [], m, h => by
    have e : m = 0 := by
      cases m <;> exact Option.some.inj h
    subst e
    exact ⟨[], rfl, rfl⟩
  | w :: ws, 0, h => by cases h
  | w :: ws, m + 1, h => by
    have h : (if w = sP then cnt (m + 2) ws else if w = sM then cnt m ws else none) = some 0 := h
    by_cases c : w = sP
    · rw [if_pos c] at h
      obtain ⟨ts, h1, h2⟩ := parse ws (m + 2) h
      match ts, h1, h2 with
      | a :: b :: ts, h1, h2 =>
        refine ⟨.nd a b :: ts, by rw [List.length_cons] at h1 ⊢; rw [List.length_cons] at h1; omega, ?_⟩
        rw [c, h2, List.flatMap_cons, List.flatMap_cons, List.flatMap_cons]
        show _ = (sP :: trk a ++ trk b) ++ _
        simp
    · rw [if_neg c] at h
      by_cases d : w = sM
      · rw [if_pos d] at h
        obtain ⟨ts, h1, h2⟩ := parse ws m h
        refine ⟨.lf :: ts, by rw [List.length_cons, h1], ?_⟩
        rw [d, h2, List.flatMap_cons]
        rfl
      · rw [if_neg d] at h
        cases h
theorem cnt_trk : ∀ (t : Tr) (m : Nat) (ws : List Str), cnt (m + 1) (trk t ++ ws) = cnt m ws
  | .lf, m, ws => by
    show (if sM = sP then _ else if sM = sM then cnt m ws else none) = _
    rw [if_neg ne_pm, if_pos rfl]
  | .nd a b, m, ws => by
    show (if sP = sP then cnt (m + 2) ((trk a ++ trk b) ++ ws) else _) = _
    rw [if_pos rfl, List.append_assoc, cnt_trk a (m + 1), cnt_trk b m]
theorem signs_inj {a b : Str} (h : DL.signs a = DL.signs b) : a = b := by
  unfold DL.signs at h
  have inj : Function.Injective fun c : Nat => (⟨#[c]⟩ : Str) := fun c d e => by
    have := congrArg (fun s : Str => s.cps.toList) e
    simpa using this
  have e := (List.map_inj_right inj).mp h
  obtain ⟨⟨x⟩⟩ := a
  obtain ⟨⟨y⟩⟩ := b
  have e : x = y := e
  rw [e]
theorem is_trS {z : Str} (h : cnt 1 (DL.signs z) = some 0) : ∃ t : Tr, z = trS t := by
  obtain ⟨ts, h1, h2⟩ := parse _ 1 h
  match ts, h1, h2 with
  | [t], _, h2 =>
    refine ⟨t, signs_inj ?_⟩
    rw [h2, trS_signs, List.flatMap_cons]
    simp
theorem trS_cnt (t : Tr) : cnt 1 (DL.signs (trS t)) = some 0 := by
  rw [trS_signs]
  have := cnt_trk t 0 []
  rw [List.append_nil] at this
  exact this
theorem forG_rt {X σ ρ : Type} {body : X → σ → Option (Lp σ ρ)} {a : X} {l : List X} {s : σ} {r : ρ} (h : body a s = some (.rt r)) : forG body (a :: l) s = some (.rt r) := by
  show (body a s).bind _ = _
  rw [h]
  rfl
theorem p_pp : bD (p_eq (PyData.str sP) (PyData.str ("+" : Str))) = some true := by kernel_rfl
theorem p_mp : bD (p_eq (PyData.str sM) (PyData.str ("+" : Str))) = some false := by kernel_rfl
theorem p_sp : bD (p_eq (PyData.str sS) (PyData.str ("+" : Str))) = some false := by kernel_rfl
theorem p_sm : bD (p_eq (PyData.str sS) (PyData.str ("-" : Str))) = some false := by kernel_rfl
theorem n_p : bD (p_notin (PyData.str sP) ((p2 PyData.str PyData.str) (("+" : Str), ("-" : Str)))) = some false := by kernel_rfl
theorem n_m : bD (p_notin (PyData.str sM) ((p2 PyData.str PyData.str) (("+" : Str), ("-" : Str)))) = some false := by kernel_rfl
theorem n_s : bD (p_notin (PyData.str sS) ((p2 PyData.str PyData.str) (("+" : Str), ("-" : Str)))) = some true := by kernel_rfl
theorem trk_loop (thing : PyData) : ∀ (ws : List Str) (m : Nat), (∀ w ∈ ws, w = sP ∨ w = sM ∨ w = sS) →
    forG (fun x_1 (missing_ : Int) => f_is_track_L1 thing x_1 missing_) ws (m : Int) = match cnt m ws with
      | some k => some (.nx (k : Int))
      | none => some (.rt false)
  | [], m, _ => by cases m <;> rfl
  | w :: ws, 0, _ => by
    refine forG_rt ?_
    unfold f_is_track_L1
    exact iT (decide_eq_true rfl) rfl
  | w :: ws, m + 1, h => by
    have ih := fun k => trk_loop thing ws k fun x hx => h x (List.mem_cons_of_mem _ hx)
    have z : decide (((m + 1 : Nat) : Int) = 0) = false := decide_eq_false (by omega)
    rcases h w List.mem_cons_self with c | c | c
    · subst c
      refine forG_cons (s' := ((m + 2 : Nat) : Int)) ?_ ((ih (m + 2)).trans ?_)
      · unfold f_is_track_L1
        exact iF z (bs p_pp (iT rfl (bs (a := ((m + 2 : Nat) : Int)) (congrArg some (by omega)) rfl)))
      · show _ = match (if sP = sP then cnt (m + 2) ws else _) with | some k => _ | none => _
        rw [if_pos rfl]
    · subst c
      refine forG_cons (s' := (m : Int)) ?_ ((ih m).trans ?_)
      · unfold f_is_track_L1
        exact iF z (bs p_mp (iF rfl (bs p_mm (iT rfl (bs (a := (m : Int)) (congrArg some (by omega)) rfl)))))
      · show _ = match (if sM = sP then cnt (m + 2) ws else if sM = sM then cnt m ws else none) with | some k => _ | none => _
        rw [if_neg ne_pm, if_pos rfl]
    · subst c
      show _ = match (if sS = sP then cnt (m + 2) ws else if sS = sM then cnt m ws else none) with
        | some k => some (Lp.nx (k : Int))
        | none => some (Lp.rt false)
      rw [if_neg ne_sp, if_neg ne_sm]
      refine forG_rt ?_
      unfold f_is_track_L1
      exact iF z (bs p_sp (iF rfl (bs p_sm (iF rfl rfl))))
theorem is_tr {z : Str} (h : Sg z) : f_is_track (PyData.str z) = some (decide (cnt 1 (DL.signs z) = some 0)) := by
  unfold f_is_track
  refine bs (a := true) rfl (iF rfl (bs rfl (bs (a := DL.signs z) rfl ?_)))
  have k := trk_loop (PyData.str z) (DL.signs z) 1 h
  cases c : cnt 1 (DL.signs z) with
  | some m =>
    rw [c] at k
    refine (thenL_nx (s := (m : Int)) k).trans (congrArg some ?_)
    refine decide_eq_decide.mpr ⟨fun h => ?_, fun h => ?_⟩
    · have : m = 0 := by omega
      rw [this]
    · have := Option.some.inj h
      omega
  | none =>
    rw [c] at k
    refine (thenL_rt (r := false) k).trans ?_
    rw [decide_eq_false (by intro z; cases z)]
def zp (l r : Int) (t : Tr) : List (Int × Int) := (t.lf'.map fun x => l + x).zip (t.rg'.map fun x => r + x)
theorem zp_nd (l r : Int) (a b : Tr) : zp l r (.nd a b) = zp (l + 1) r a ++ zp l (r + 1) b := by
  unfold zp
  have e1 : (Tr.nd a b).lf' = a.lf'.map (· + 1) ++ b.lf' := rfl
  have e2 : (Tr.nd a b).rg' = a.rg' ++ b.rg'.map (· + 1) := rfl
  rw [e1, e2, List.map_append, List.map_append, List.zip_append (by rw [List.length_map, List.length_map, List.length_map, a.lf_len, a.rg_len]), List.map_map, List.map_map]
  have f1 : ((fun x : Int => l + x) ∘ (· + 1)) = fun x => l + 1 + x := by
    funext x
    show l + (x + 1) = l + 1 + x
    omega
  have f2 : ((fun x : Int => r + x) ∘ (· + 1)) = fun x => r + 1 + x := by
    funext x
    show r + (x + 1) = r + 1 + x
    omega
  rw [f1, f2]
theorem zp_len (l r : Int) (t : Tr) : (zp l r t).length = t.sz + 1 := by
  unfold zp
  rw [List.length_zip, List.length_map, List.length_map, t.lf_len, t.rg_len]
  omega
theorem zp_0 (t : Tr) : zp 0 0 t = t.lf'.zip t.rg' := by
  unfold zp
  rw [show (fun x : Int => (0 : Int) + x) = fun x => x by funext x; omega, List.map_id', List.map_id']
theorem bud_go (text : Str) : ∀ (t : Tr) (W B : List (Int × Int)) (l r : Int), W.length + t.sz ≤ 1000000 → B.length + t.sz ≤ 1000000 →
    forS (nxO fun x_1 (s_ : List (Int × Int) × List (Int × Int)) => f_w_buds_L1 text x_1 s_.1 s_.2) (trk t) (W ++ [(l, r)], B) = some (W, B ++ zp l r t)
  | .lf, W, B, l, r, h1, h2 => by
    refine forS_cons (s' := (W, B ++ [(l, r)])) (nxO_ok ?_) ?_
    · unfold f_w_buds_L1
      refine bs (a := false) (orFF (decide_eq_false (by rw [List.length_append, List.length_singleton]; omega)) (bs n_m rfl)) (iF rfl (bs (popO_ok _ _) (bs p_mp (iF rfl (bs (appO_ok (by dsimp only; omega)) rfl)))))
    · show some (W, B ++ [(l, r)]) = some (W, B ++ [(l + 0, r + 0)])
      rw [Int.add_zero, Int.add_zero]
  | .nd a b, W, B, l, r, h1, h2 => by
    have hz : (Tr.nd a b).sz = a.sz + b.sz + 1 := rfl
    rw [hz] at h1 h2
    show forS _ (sP :: (trk a ++ trk b)) _ = _
    refine forS_cons (s' := ((W ++ [(l, r + 1)]) ++ [(l + 1, r)], B)) (nxO_ok ?_) (forS_to (bud_go text a (W ++ [(l, r + 1)]) B (l + 1) r (by rw [List.length_append, List.length_singleton]; omega) (by omega)) ((bud_go text b W (B ++ zp (l + 1) r a) l (r + 1) (by omega) (by rw [List.length_append, zp_len]; omega)).trans ?_))
    · unfold f_w_buds_L1
      refine bs (a := false) (orFF (decide_eq_false (by rw [List.length_append, List.length_singleton]; omega)) (bs n_p rfl)) (iF rfl (bs (popO_ok _ _) (bs p_pp (iT rfl (bs (appO_ok (by dsimp only; omega)) (bs (appO_ok (by rw [List.length_append, List.length_singleton]; dsimp only; omega)) rfl))))))
    · rw [zp_nd, List.append_assoc]
theorem w_buds {t : Tr} (h : t.sz ≤ 100000) : f_w_buds (trS t) = some (some (t.lf'.zip t.rg')) := by
  unfold f_w_buds
  have k := bud_go (trS t) t [] [] 0 0 (by simp; omega) (by simp; omega)
  rw [zp_0, List.nil_append] at k
  rw [← trS_signs t] at k
  refine bs rfl (bs rfl ?_)
  rw [thenL_nx (forG_of k)]
  exact iF rfl rfl
theorem no_buds {z : Str} (h : Sg z) (hl : (DL.signs z).length ≤ 100000) (hc : ¬ cnt 1 (DL.signs z) = some 0) : f_w_buds z = some none := by
  unfold f_w_buds
  have go : ∀ (ws : List Str) (W B : List (Int × Int)), (∀ w ∈ ws, w = sP ∨ w = sM ∨ w = sS) → W.length + ws.length ≤ 200000 → B.length + ws.length ≤ 200000 →
      (∃ W' B', forG (fun x_1 (s_ : List (Int × Int) × List (Int × Int)) => f_w_buds_L1 z x_1 s_.1 s_.2) ws (W, B) = some (.nx (W', B')) ∧ cnt W.length ws = some W'.length) ∨
      (forG (fun x_1 (s_ : List (Int × Int) × List (Int × Int)) => f_w_buds_L1 z x_1 s_.1 s_.2) ws (W, B) = some (.rt none)) := fun ws => by
    induction ws with
    | nil =>
      intro W B _ _ _
      refine .inl ⟨W, B, rfl, ?_⟩
      cases W.length <;> rfl
    | cons w ws ih =>
      intro W B h h1 h2
      rw [List.length_cons] at h1 h2
      have ih := fun W B => ih W B fun x hx => h x (List.mem_cons_of_mem _ hx)
      rcases List.eq_nil_or_concat W with c | ⟨V, ⟨l, r⟩, c⟩
      · subst c
        refine .inr (forG_rt ?_)
        unfold f_w_buds_L1
        exact bs (a := true) rfl (iT rfl rfl)
      · rw [List.concat_eq_append] at c
        subst c
        have hl : (V ++ [(l, r)]).length = V.length + 1 := by rw [List.length_append, List.length_singleton]
        have ne : decide (((V ++ [(l, r)]).length : Int) = 0) = false := decide_eq_false (by omega)
        rcases h w List.mem_cons_self with d | d | d
        · subst d
          have st : f_w_buds_L1 z sP (V ++ [(l, r)]) B = some (.nx ((V ++ [(l, r + 1)]) ++ [(l + 1, r)], B)) := by
            unfold f_w_buds_L1
            exact bs (a := false) (orFF ne (bs n_p rfl)) (iF rfl (bs (popO_ok _ _) (bs p_pp (iT rfl (bs (appO_ok (by dsimp only; omega)) (bs (appO_ok (by rw [List.length_append, List.length_singleton]; dsimp only; omega)) rfl))))))
          have hl2 : ((V ++ [(l, r + 1)]) ++ [(l + 1, r)]).length = V.length + 2 := by rw [List.length_append, List.length_append, List.length_singleton, List.length_singleton]
          have ec : cnt (V ++ [(l, r)]).length (sP :: ws) = cnt (V.length + 2) ws := by
            rw [hl]
            show (if sP = sP then cnt (V.length + 2) ws else _) = _
            rw [if_pos rfl]
          rcases ih ((V ++ [(l, r + 1)]) ++ [(l + 1, r)]) B (by omega) (by omega) with ⟨W', B', k1, k2⟩ | k
          · exact .inl ⟨W', B', forG_cons st k1, by rw [ec, ← hl2]; exact k2⟩
          · exact .inr (forG_cons st k)
        · subst d
          have st : f_w_buds_L1 z sM (V ++ [(l, r)]) B = some (.nx (V, B ++ [(l, r)])) := by
            unfold f_w_buds_L1
            exact bs (a := false) (orFF ne (bs n_m rfl)) (iF rfl (bs (popO_ok _ _) (bs p_mp (iF rfl (bs (appO_ok (by omega)) rfl)))))
          have ec : cnt (V ++ [(l, r)]).length (sM :: ws) = cnt V.length ws := by
            rw [hl]
            show (if sM = sP then _ else if sM = sM then cnt V.length ws else none) = _
            rw [if_neg ne_pm, if_pos rfl]
          rcases ih V (B ++ [(l, r)]) (by omega) (by rw [List.length_append, List.length_singleton]; omega) with ⟨W', B', k1, k2⟩ | k
          · exact .inl ⟨W', B', forG_cons st k1, by rw [ec]; exact k2⟩
          · exact .inr (forG_cons st k)
        · subst d
          refine .inr (forG_rt ?_)
          unfold f_w_buds_L1
          exact bs (a := true) (show orO (decide (((V ++ [(l, r)]).length : Int) = 0)) _ = some true by rw [ne]; exact bs n_s rfl) (iT rfl rfl)
  refine bs rfl (bs rfl ?_)
  rcases go (DL.signs z) [((0 : Int), (0 : Int))] [] h (by show 1 + _ ≤ _; omega) (by show 0 + _ ≤ _; omega) with ⟨W', B', k1, k2⟩ | k
  · rw [thenL_nx k1]
    refine iT (decide_eq_true ?_) rfl
    have : W'.length ≠ 0 := fun e => hc (by rw [← e]; exact k2)
    show (0 : Int) < (W'.length : Int)
    omega
  · rw [thenL_rt k]
theorem n_track {t : Tr} : f_need_track (trS t) = some () := by
  unfold f_need_track
  refine bs (is_tr ?_) (iF ?_ rfl)
  · intro w m
    rw [trS_signs] at m
    rcases trk_sign t w m with c | c
    · exact .inr (.inl c)
    · exact .inl c
  · rw [trS_cnt, decide_eq_true rfl]
    rfl
theorem turn_go (track : Str) : ∀ (t : Tr) (W B : List (Int × Int)) (l r : Int), W.length + t.sz ≤ 1000000 → B.length + t.sz ≤ 1000000 →
    forS (fun x_1 (s_ : List (Int × Int) × List (Int × Int)) => f_turns_of_L1 track x_1 s_.1 s_.2) (trk t) (B, W ++ [(l, r)]) = some (B ++ zp l r t, W)
  | .lf, W, B, l, r, h1, h2 => by
    refine forS_cons (s' := (B ++ [(l, r)], W)) ?_ ?_
    · unfold f_turns_of_L1
      exact bs (popO_ok _ _) (bs p_mm (iT rfl (bs (appO_ok (by dsimp only; omega)) rfl)))
    · show some (B ++ [(l, r)], W) = some (B ++ [(l + 0, r + 0)], W)
      rw [Int.add_zero, Int.add_zero]
  | .nd a b, W, B, l, r, h1, h2 => by
    have hz : (Tr.nd a b).sz = a.sz + b.sz + 1 := rfl
    rw [hz] at h1 h2
    show forS _ (sP :: (trk a ++ trk b)) _ = _
    refine forS_cons (s' := (B, (W ++ [(l, r + 1)]) ++ [(l + 1, r)])) ?_ (forS_to (turn_go track a (W ++ [(l, r + 1)]) B (l + 1) r (by rw [List.length_append, List.length_singleton]; omega) (by omega)) ((turn_go track b W (B ++ zp (l + 1) r a) l (r + 1) (by omega) (by rw [List.length_append, zp_len]; omega)).trans ?_))
    · unfold f_turns_of_L1
      exact bs (popO_ok _ _) (bs p_pm (iF rfl (bs (appO_ok (by dsimp only; omega)) (bs (appO_ok (by rw [List.length_append, List.length_singleton]; dsimp only; omega)) rfl))))
    · rw [zp_nd, List.append_assoc]
theorem v_turns {t : Tr} (h : t.sz ≤ 100000) : f_turns_of (trS t) = some (t.lf'.zip t.rg') := by
  unfold f_turns_of
  have k := turn_go (trS t) t [] [] 0 0 (by simp; omega) (by simp; omega)
  rw [zp_0, List.nil_append, ← trS_signs t] at k
  exact bs n_track (bs rfl (bs rfl (bs k rfl)))
theorem v_from {t : Tr} (h : t.sz ≤ 100000) : f_bases_from (trS t) = some t.pl := by
  unfold f_bases_from
  exact bs n_track (bs (built_t false h) rfl)
end K24
namespace K24
open PySem PySem.Spec PyProof.Rows L2 DL
abbrev Hand := List Int × Int × Int × Int × Int
structure HdOk (s : Hand) : Prop where
  at_ : 0 ≤ s.2.1
  big : 0 ≤ s.2.2.1
  st0 : 0 ≤ s.2.2.2.1
  st1 : s.2.2.2.1 < 2147483629
theorem v_hand (cells : List Int) : ∃ s, f_w_hand cells = some s ∧ HdOk s := by
  unfold f_w_hand
  exact ⟨_, rfl, by show (0 : Int) ≤ 0; omega, by show (0 : Int) ≤ 0; omega, by show (0 : Int) ≤ 0; omega, by show (0 : Int) < 2147483629; omega⟩
section
variable {s : Hand} {m : Int}
theorem v_take1 (h : HdOk s) (h0 : 0 < m) (hm : m.natAbs < 2 ^ 100) : ∃ r, f_w_take_J1 m s = some r ∧ (0 ≤ r.1 ∧ r.1 < m) ∧ HdOk r.2 := by
  unfold f_w_take_J1
  by_cases c1 : 0 < s.2.2.1
  · refine iTX (decide_eq_true c1) (bsX (modO_ok h0) (bsX (divO_w h0 hm (by decide)) ⟨_, rfl, ⟨Int.emod_nonneg _ (by omega), Int.emod_lt_of_pos _ h0⟩, h.at_, Int.ediv_nonneg h.big (by omega), h.st0, h.st1⟩))
  · refine iFX (decide_eq_false c1) (bsX rfl ?_)
    generalize hx : ((s.2.2.2.1 + (s.2.2.2.2 * (40503 : Int))) * (48271 : Int)) % (2147483647 : Int) = x
    have x0 : 0 ≤ x := by rw [← hx]; exact Int.emod_nonneg _ (by omega)
    have x1 : x < 2147483647 := by rw [← hx]; exact Int.emod_lt_of_pos _ (by omega)
    have l1 : x.natAbs.log2 ≤ 32 := log_le (by omega)
    exact bsX (mulO_w (by omega)) (bsX rfl (bsX (modO_ok h0) ⟨_, rfl, ⟨Int.emod_nonneg _ (by omega), Int.emod_lt_of_pos _ h0⟩, h⟩))
theorem v_take (h : HdOk s) (h0 : 0 < m) (hm : m.natAbs < 2 ^ 100) : ∃ r, f_w_take s m = some r ∧ (0 ≤ r.1 ∧ r.1 < m) ∧ HdOk r.2 := by
  unfold f_w_take
  refine bsX rfl ?_
  have h1 : HdOk (s.1, s.2.1, s.2.2.1, s.2.2.2.1, s.2.2.2.2 + 1) := ⟨h.at_, h.big, h.st0, h.st1⟩
  by_cases c0 : (s.1.length : Int) = 0
  · exact iTX (decide_eq_true c0) (bsX (modO_ok h0) ⟨_, rfl, ⟨Int.emod_nonneg _ (by omega), Int.emod_lt_of_pos _ h0⟩, h1⟩)
  refine iFX (decide_eq_false c0) ?_
  by_cases c : s.2.2.1 = 0 ∧ s.2.1 < (s.1.length : Int)
  · obtain ⟨k, hk⟩ := nat_of h.at_
    have lt : k < s.1.length := by omega
    refine iTX (by rw [decide_eq_true c.1, decide_eq_true c.2]; rfl) ?_
    dsimp only
    refine bsX (a := s.1[k]) (by rw [hk, atI_nn]; exact List.getElem?_eq_getElem lt) (bsX rfl (bsX rfl (bsX (a := 1000000000000000000) rfl ?_)))
    dsimp only
    generalize s.1[k] = x
    have p1 : 0 ≤ s.2.1 + 1 := by
      have := h.at_
      omega
    have st0 : 0 ≤ (s.2.2.2.1 * 131 + x + 24) % 2147483629 := Int.emod_nonneg _ (by omega)
    have st1 : (s.2.2.2.1 * 131 + x + 24) % 2147483629 < 2147483629 := Int.emod_lt_of_pos _ (by omega)
    by_cases d : (1000000000000000000 : Int) ≤ (if x < 0 then -x else x)
    · exact iTX (decide_eq_true d) (bsX (a := 10 ^ 60) rfl (bsX (modO_ok (by decide)) (bsX rfl (v_take1 ⟨p1, Int.emod_nonneg _ (by decide), st0, st1⟩ h0 hm))))
    · exact iFX (decide_eq_false d) (v_take1 ⟨p1, h.big, st0, st1⟩ h0 hm)
  · refine iFX ?_ (v_take1 h1 h0 hm)
    dsimp only
    rw [Bool.and_eq_false_iff]
    by_cases e : s.2.2.1 = 0
    · exact .inr (decide_eq_false fun z => c ⟨e, z⟩)
    · exact .inl (decide_eq_false e)
/-- .. as a number -/
theorem n_take {k : Nat} (h : HdOk s) (h0 : 1 ≤ k) (hm : k < 2 ^ 100) : ∃ (n : Nat) (s' : Hand), f_w_take s (k : Int) = some ((n : Int), s') ∧ n < k ∧ HdOk s' := by
  obtain ⟨r, h1, ⟨h2, h3⟩, h4⟩ := v_take (s := s) (m := (k : Int)) h (by omega) (by rw [Int.natAbs_natCast]; exact hm)
  obtain ⟨n, hn⟩ := nat_of h2
  refine ⟨n, r.2, ?_, by omega, h4⟩
  rw [h1, ← hn]
end
/-- a drawn plan -/
theorem w_plan {s : Hand} (h : HdOk s) {n : Nat} (hn : n ≤ 1000) : ∃ (t : Tr) (s' : Hand), f_w_plan s (n : Int) = some (t.pl, s') ∧ t.sz = n ∧ HdOk s' := by
  unfold f_w_plan
  obtain ⟨J, hJ⟩ : ∃ J : Nat → (Hand × List Int × List Int) → Prop, ∀ k p, J k p = ∃ t : Tr, p.2.1 = t.pl ∧ p.2.2 ++ [(0 : Int)] = t.ch.reverse ∧ t.sz = k ∧ HdOk p.1 := ⟨fun k p => _, fun _ _ => rfl⟩
  obtain ⟨p, h1, h2⟩ := forS_J (n := n) (f := fun (k : Nat) => ((k + 1 : Nat) : Int)) J (body := fun x_1 (s_ : Hand × List Int × List Int) => f_w_plan_L1 (n : Int) x_1 s_.1 s_.2.1 s_.2.2) (s := (s, [], [])) (by rw [hJ]; exact ⟨.lf, rfl, rfl, rfl, h⟩) fun k hk p hp => by
    rw [hJ] at hp
    obtain ⟨t, e1, e2, e3, e4⟩ := hp
    unfold f_w_plan_L1
    have cl := t.ch_len
    have len := congrArg List.length e2
    rw [List.length_append, List.length_singleton, List.length_reverse] at len
    obtain ⟨j, s', k1, k2, k3⟩ := n_take (k := t.ch.length) e4 (by omega) (Nat.lt_of_le_of_lt (show t.ch.length ≤ 1001 by omega) (by decide))
    -- the place in the chain, from below
    obtain ⟨i, hi⟩ : ∃ i, i = t.ch.length - 1 - j := ⟨_, rfl⟩
    obtain ⟨x, hx⟩ : ∃ x, t.ch[i]? = some x := ⟨_, List.getElem?_eq_getElem (by omega)⟩
    have hx2 : (p.2.2 ++ [(0 : Int)])[j]? = some x := by
      rw [e2, List.getElem?_reverse (by omega), ← hi]
      exact hx
    have il : i < t.ch.length := by omega
    refine bsX (a := ((j : Int), s')) ?_ (bsX rfl (bsX (catO_ok ?_) (bsX (a := x) ?_ (bsX (appO_ok ?_) (bsX (catO_ok ?_) ⟨_, rfl, ?_⟩)))))
    · rw [show ((p.2.2.length : Int) + 1) = ((t.ch.length : Nat) : Int) by omega]
      exact k1
    · show p.2.2.length + 1 ≤ _
      omega
    · rw [atI_nn]
      exact hx2
    · rw [e1, t.pl_len]
      omega
    · rw [cut_from (by omega), List.length_drop]
      show 1 + _ ≤ _
      omega
    · rw [hJ]
      refine ⟨t.app i, ?_, ?_, ?_, k3⟩
      · rw [e1, t.app_pl i x hx]
      · show ([((k + 1 : Nat) : Int)] ++ DL.cutD p.2.2 (some (j : Int)) none) ++ [(0 : Int)] = _
        rw [t.ch_app i il, List.reverse_append, cut_from (by omega), List.append_assoc]
        show ((k + 1 : Nat) : Int) :: (p.2.2.drop j ++ [0]) = ((t.sz : Int) + 1) :: (t.ch.take (i + 1)).reverse
        congr 1
        · omega
        · rw [← List.drop_append_of_le_length (by omega), e2, List.drop_reverse]
          congr 2
          omega
      · rw [t.app_sz i il, e3]
  rw [hJ] at h2
  obtain ⟨t, e1, e2, e3, e4⟩ := h2
  refine ⟨t, p.1, bs rfl (bs rfl (bs (rngO_1 (by omega)) (bs h1 ?_))), e3, e4⟩
  rw [e1]
theorem sg_app (a b : Str) : DL.signs (a ++ b) = DL.signs a ++ DL.signs b := by
  unfold DL.signs
  rw [show (a ++ b).cps.toList = a.cps.toList ++ b.cps.toList from Array.toList_append, List.map_append]
theorem sg_len (z : Str) : (DL.signs z).length = z.length := by
  unfold DL.signs
  rw [List.length_map, Array.length_toList]
  rfl
theorem sg_cut (z : Str) (lo hi : Option Int) : ∃ i j, DL.signs (L2.cutS z lo hi) = ((DL.signs z).drop i).take j := by
  refine ⟨HT.sIx z.length 0 lo, HT.sIx z.length z.length hi - HT.sIx z.length 0 lo, ?_⟩
  unfold DL.signs
  rw [← List.map_drop, ← List.map_take]
  rfl
theorem Sg.app {a b : Str} (h : Sg a) (k : Sg b) : Sg (a ++ b) := fun w m => by
  rw [sg_app] at m
  rcases List.mem_append.mp m with m | m
  · exact h w m
  · exact k w m
theorem Sg.cut {z : Str} (h : Sg z) (lo hi : Option Int) : Sg (L2.cutS z lo hi) := fun w m => by
  obtain ⟨i, j, e⟩ := sg_cut z lo hi
  rw [e] at m
  exact h w (List.mem_of_mem_drop (List.mem_of_mem_take m))
theorem Sg.rev {z : Str} (h : Sg z) : Sg (revS z) := fun w m => by
  rw [signs_rev] at m
  exact h w (List.mem_reverse.mp m)
theorem si_P : DL.signs sP = [sP] := by kernel_rfl
theorem si_M : DL.signs sM = [sM] := by kernel_rfl
theorem si_S : DL.signs sS = [sS] := by kernel_rfl
theorem sg_P : Sg sP := fun w m => .inl (List.mem_singleton.mp (by rwa [si_P] at m))
theorem sg_M : Sg sM := fun w m => .inr (.inl (List.mem_singleton.mp (by rwa [si_M] at m)))
theorem sg_S : Sg sS := fun w m => .inr (.inr (List.mem_singleton.mp (by rwa [si_S] at m)))
theorem rev_ok {z : Str} (h : z.length ≤ 1000000) : revSO z = some (revS z) := if_pos (okLen_yes (by omega))
theorem len_ok {z : Str} (h : z.length ≤ 1000000) : lenSO z = some (z.length : Int) := if_pos (okLen_yes (by omega))
theorem cut_le (z : Str) (lo hi : Option Int) : (L2.cutS z lo hi).length ≤ z.length := L2.cutS_length z lo hi
theorem ad_ok {a b : Str} (h : a.length + b.length ≤ 1000000) : adSO a b = some (a ++ b) := if_pos (okLen_yes (by omega))
theorem sl_ok {z : Str} {lo hi : Option Int} (h : z.length ≤ 1000000) : slSO z lo hi = some (L2.cutS z lo hi) := if_pos (okLen_yes (by omega))
theorem app_len (a b : Str) : (a ++ b).length = a.length + b.length := Str.length_append a b
theorem cnt_snoc : ∀ (ws : List Str) (m k : Nat) (w : Str), cnt m ws = some k → cnt m (ws ++ [w]) = cnt k [w]
  | [], m, k, w, h => by
    have e : m = k := by cases m <;> exact Option.some.inj h
    rw [e]
    rfl
  | x :: ws, 0, k, w, h => by cases h
  | x :: ws, m + 1, k, w, h => by
    have h : (if x = sP then cnt (m + 2) ws else if x = sM then cnt m ws else none) = some k := h
    show (if x = sP then cnt (m + 2) (ws ++ [w]) else if x = sM then cnt m (ws ++ [w]) else none) = _
    by_cases c : x = sP
    · rw [if_pos c] at h ⊢
      exact cnt_snoc ws (m + 2) k w h
    · rw [if_neg c] at h ⊢
      by_cases d : x = sM
      · rw [if_pos d] at h ⊢
        exact cnt_snoc ws m k w h
      · rw [if_neg d] at h
        cases h
/-- a drawn track -/
theorem w_sign {s : Hand} (h : HdOk s) {n : Nat} (hn : n ≤ 1000) : ∃ (t : Tr) (s' : Hand), f_w_sign s (n : Int) = some (trS t, s') ∧ t.sz = n ∧ HdOk s' := by
  unfold f_w_sign
  obtain ⟨J, hJ⟩ : ∃ J : Nat → (Hand × Int × Str × Int) → Prop, ∀ k p, J k p = (HdOk p.1 ∧ ∃ (m w : Nat), p.2.1 = (m : Int) ∧ p.2.2.2 = (w : Int) ∧ cnt 1 (DL.signs p.2.2.1) = some w ∧ p.2.2.1.length = k ∧ 2 * m + w + k = 2 * n + 1 ∧ (1 ≤ w ∨ m = 0)) := ⟨fun k p => _, fun _ _ => rfl⟩
  obtain ⟨p, h1, h2⟩ := forS_J (n := 2 * n + 1) (f := fun (k : Nat) => (k : Int)) J (body := fun x_1 (s_ : Hand × Int × Str × Int) => f_w_sign_L1 x_1 s_.1 s_.2.1 s_.2.2.1 s_.2.2.2) (s := (s, (n : Int), "", 1)) (by rw [hJ]; exact ⟨h, n, 1, rfl, rfl, rfl, rfl, by omega, .inl (by omega)⟩) fun k hk p hp => by
    rw [hJ] at hp
    obtain ⟨o, m, w, e1, e2, e3, e4, e5, e6⟩ := hp
    obtain ⟨P, m0, z, w0⟩ := p
    have e1 : m0 = (m : Int) := e1
    have e2 : w0 = (w : Int) := e2
    have e3 : cnt 1 (DL.signs z) = some w := e3
    have e4 : z.length = k := e4
    subst e1
    subst e2
    have w1 : 1 ≤ w := by omega
    have plus : ∀ P' : Hand, HdOk P' → 1 ≤ m → J (k + 1) (P', (m : Int) - 1, z ++ sP, (w : Int) + 1) := fun P' o' hm => by
      rw [hJ]
      refine ⟨o', m - 1, w + 1, by show (m : Int) - 1 = _; omega, by show (w : Int) + 1 = _; omega, ?_, by show (z ++ sP).length = _; rw [app_len, e4]; rfl, by omega, .inl (by omega)⟩
      show cnt 1 (DL.signs (z ++ sP)) = _
      rw [sg_app]
      refine (cnt_snoc _ 1 w sP e3).trans ?_
      obtain ⟨v, rfl⟩ : ∃ v, w = v + 1 := ⟨w - 1, by omega⟩
      show (if sP = sP then cnt (v + 2) [] else _) = _
      rw [if_pos rfl]
      rfl
    have minus : ∀ P' : Hand, HdOk P' → (1 ≤ m → 2 ≤ w) → J (k + 1) (P', (m : Int), z ++ sM, (w : Int) - 1) := fun P' o' hm => by
      rw [hJ]
      refine ⟨o', m, w - 1, rfl, by show (w : Int) - 1 = _; omega, ?_, by show (z ++ sM).length = _; rw [app_len, e4]; rfl, by omega, by omega⟩
      show cnt 1 (DL.signs (z ++ sM)) = _
      rw [sg_app]
      refine (cnt_snoc _ 1 w sM e3).trans ?_
      obtain ⟨v, rfl⟩ : ∃ v, w = v + 1 := ⟨w - 1, by omega⟩
      show (if sM = sP then _ else if sM = sM then cnt v [] else none) = _
      rw [if_neg ne_pm, if_pos rfl, Nat.add_sub_cancel]
      cases v <;> rfl
    have lp : z.length + sP.length ≤ 1000000 := by
      rw [e4]
      show k + 1 ≤ _
      omega
    have lm : z.length + sM.length ≤ 1000000 := by
      rw [e4]
      show k + 1 ≤ _
      omega
    unfold f_w_sign_L1
    by_cases c : m = 0
    · refine bsX (a := (false, P)) (iF (decide_eq_false (by dsimp only; omega)) rfl) (iFX rfl (bsX (ad_ok lm) (bsX rfl ⟨_, rfl, minus P o (by omega)⟩)))
    · by_cases d : w = 1
      · exact bsX (a := (true, P)) (iT (decide_eq_true (by dsimp only; omega)) (bs (a := (true, P)) (iT (decide_eq_true (by dsimp only; omega)) rfl) rfl)) (iTX rfl (bsX (ad_ok lp) (bsX rfl (bsX rfl ⟨_, rfl, plus P o (by omega)⟩))))
      · obtain ⟨j, s', k1, k2, k3⟩ := n_take (k := 2) o (by omega) (by decide)
        by_cases e : j = 0
        · exact bsX (a := (true, s')) (iT (decide_eq_true (by dsimp only; omega)) (bs (a := (true, s')) (iF (decide_eq_false (by dsimp only; omega)) (bs k1 (by rw [decide_eq_true (show (j : Int) = 0 by omega)]))) rfl)) (iTX rfl (bsX (ad_ok lp) (bsX rfl (bsX rfl ⟨_, rfl, plus s' k3 (by omega)⟩))))
        · exact bsX (a := (false, s')) (iT (decide_eq_true (by dsimp only; omega)) (bs (a := (false, s')) (iF (decide_eq_false (by dsimp only; omega)) (bs k1 (by rw [decide_eq_false (show ¬ (j : Int) = 0 by omega)]))) rfl)) (iFX rfl (bsX (ad_ok lm) (bsX rfl ⟨_, rfl, minus s' k3 (by omega)⟩)))
  rw [hJ] at h2
  obtain ⟨o, m, w, e1, e2, e3, e4, e5, e6⟩ := h2
  have w0 : w = 0 := by omega
  subst w0
  obtain ⟨t, ht⟩ := is_trS e3
  have tl := trS_len t
  rw [← ht, e4] at tl
  refine ⟨t, p.1, bs rfl (bs rfl (bs (a := (List.range (2 * n + 1)).map fun (k : Nat) => (k : Int)) ?_ (bs h1 ?_))), by omega, o⟩
  · have := rng1O_n (n := 2 * n + 1) (by omega)
    rwa [show (((2 * n + 1 : Nat)) : Int) = 2 * (n : Int) + 1 by omega] at this
  · rw [ht]
/-- .. spoilt -/
theorem w_spoilt {s : Hand} (h : HdOk s) {z : Str} (hz : Sg z) (h1 : 1 ≤ z.length) (h2 : z.length ≤ 1000) : ∃ r : Str × Hand, f_w_spoilt s z = some r ∧ Sg r.1 ∧ r.1.length ≤ 2 * z.length + 1 ∧ HdOk r.2 := by
  unfold f_w_spoilt
  obtain ⟨p, s1, k1, k2, k3⟩ := n_take (k := z.length) h h1 (Nat.lt_of_le_of_lt h2 (by decide))
  obtain ⟨w, s2, j1, j2, j3⟩ := n_take (k := 8) k3 (by omega) (by decide)
  have a1 := cut_le z none (some (p : Int))
  have a2 := cut_le z (some ((p : Int) + 1)) none
  have a3 := cut_le z (some (p : Int)) none
  have g1 := hz.cut none (some (p : Int))
  have g2 := hz.cut (some ((p : Int) + 1)) none
  have g3 := hz.cut (some (p : Int)) none
  have s1' : slSO z none (some (p : Int)) = some _ := sl_ok (by omega)
  have s2' : slSO z (some ((p : Int) + 1)) none = some _ := sl_ok (by omega)
  have s3' : slSO z (some (p : Int)) none = some _ := sl_ok (by omega)
  have l1 : sM.length = 1 := rfl
  have l2 : sP.length = 1 := rfl
  have l3 : sS.length = 1 := rfl
  refine bsX (len_ok (show z.length ≤ 1000000 by omega)) ?_
  refine bsX k1 (bsX rfl (bsX j1 (bsX rfl ?_)))
  by_cases c0 : w = 0
  · exact iTX (decide_eq_true (by omega)) (bsX s1' (bsX s2' (bsX (ad_ok (by omega)) ⟨_, rfl, g1.app g2, by dsimp only; rw [app_len]; omega, j3⟩)))
  refine iFX (decide_eq_false (by omega)) ?_
  by_cases c1 : w = 1
  · exact iTX (decide_eq_true (by omega)) (bsX s1' (bsX (ad_ok (b := sM) (by omega)) (bsX s3' (bsX (ad_ok (by rw [app_len]; omega)) ⟨_, rfl, (g1.app sg_M).app g3, by dsimp only; rw [app_len, app_len]; omega, j3⟩))))
  refine iFX (decide_eq_false (by omega)) ?_
  by_cases c2 : w = 2
  · exact iTX (decide_eq_true (by omega)) (bsX (ad_ok (b := sM) (by omega)) ⟨_, rfl, hz.app sg_M, by dsimp only; rw [app_len]; omega, j3⟩)
  refine iFX (decide_eq_false (by omega)) ?_
  by_cases c3 : w = 3
  · refine iTX (decide_eq_true (by omega)) (bsX s1' ?_)
    obtain ⟨y, hy⟩ : ∃ y, (DL.signs z)[p]? = some y := ⟨_, List.getElem?_eq_getElem (by rw [sg_len]; omega)⟩
    have ix : ixSO z (p : Int) = some y := by
      unfold ixSO
      rw [if_pos (okLen_yes (by omega))]
      unfold DL.signs at hy
      rw [List.getElem?_map] at hy
      rw [show L2.atI z.cps.toList (p : Int) = z.cps.toList[p]? from atI_nn]
      exact hy
    have other : ∃ x : Str, ((bD (p_eq (PyData.str y) (PyData.str ("+" : Str)))).bind fun t20 => if t20 = true then some ("-" : Str) else some ("+" : Str)) = some x ∧ Sg x ∧ x.length = 1 := by
      rcases hz y (List.mem_of_getElem? hy) with c | c | c
      · rw [c]
        exact ⟨sM, bs p_pp (iT rfl rfl), sg_M, rfl⟩
      · rw [c]
        exact ⟨sP, bs p_mp (iF rfl rfl), sg_P, rfl⟩
      · rw [c]
        exact ⟨sP, bs p_sp (iF rfl rfl), sg_P, rfl⟩
    obtain ⟨x, x1, x2, x3⟩ := other
    refine bsX ix ?_
    cases q : bD (p_eq (PyData.str y) (PyData.str ("+" : Str))) with
    | none => rw [q] at x1; cases x1
    | some b =>
      rw [q] at x1
      exact bsX rfl (bsX x1 (bsX (ad_ok (by omega)) (bsX s2' (bsX (ad_ok (by rw [app_len]; omega)) ⟨_, rfl, (g1.app x2).app g2, by dsimp only; rw [app_len, app_len]; omega, j3⟩))))
  refine iFX (decide_eq_false (by omega)) ?_
  by_cases c4 : w = 4
  · refine iTX (decide_eq_true (by omega)) (bsX (a := revS z) (rev_ok (by omega)) ⟨_, rfl, hz.rev, by dsimp only; rw [revS_len]; omega, j3⟩)
  refine iFX (decide_eq_false (by omega)) ?_
  by_cases c5 : w = 5
  · exact iTX (decide_eq_true (by omega)) (bsX s1' (bsX (ad_ok (b := sS) (by omega)) (bsX s3' (bsX (ad_ok (by rw [app_len]; omega)) ⟨_, rfl, (g1.app sg_S).app g3, by dsimp only; rw [app_len, app_len]; omega, j3⟩))))
  refine iFX (decide_eq_false (by omega)) ?_
  by_cases c6 : w = 6
  · exact iTX (decide_eq_true (by omega)) (bsX s1' (bsX (ad_ok (b := sP) (by omega)) (bsX s3' (bsX (ad_ok (by rw [app_len]; omega)) ⟨_, rfl, (g1.app sg_P).app g3, by dsimp only; rw [app_len, app_len]; omega, j3⟩))))
  exact iFX (decide_eq_false (by omega)) (bsX s3' (bsX s1' (bsX (ad_ok (by omega)) ⟨_, rfl, g3.app g1, by dsimp only; rw [app_len]; omega, j3⟩)))
end K24
namespace K24
open PySem PySem.Spec PyProof.Rows L2 DL
def nu (z : Str) : Xc := ⟨"NotUsable", [("at", .int (-1)), ("word", .str z)]⟩
def no (z : Str) : PyData := .tuple [.str "not", .str z, .int (-1)]
theorem axc_inl {fx : Fex} {fr : Fax} {e e1 e2 : Ev} {r : Rs} {rs : List Rs} (h : fx e = some (.inl (r, e1))) (k : fr e1 = some (.inl (rs, e2))) : ax_cons fx fr e = some (.inl (frzR r :: rs, e2)) := by
  unfold ax_cons
  rw [h]
  dsimp only
  rw [k]
theorem axc_inr {fx : Fex} {fr : Fax} {e : Ev} {y : Xc × Ev} (h : fx e = some (.inr y)) : ax_cons fx fr e = some (.inr y) := by
  unfold ax_cons
  rw [h]
theorem axc_inr2 {fx : Fex} {fr : Fax} {e e1 : Ev} {r : Rs} {y : Xc × Ev} (h : fx e = some (.inl (r, e1))) (k : fr e1 = some (.inr y)) : ax_cons fx fr e = some (.inr y) := by
  unfold ax_cons
  rw [h]
  dsimp only
  rw [k]
theorem tupX_inr {fr : Fax} {e : Ev} {y : Xc × Ev} (h : fr e = some (.inr y)) : x_tupX fr e = some (.inr y) := by
  unfold x_tupX
  rw [h]
theorem tupX_inl {fr : Fax} {e e1 : Ev} {rs : List Rs} {ds : List PyData} (h : fr e = some (.inl (rs, e1))) (k : imAll rs = some ds) (hl : okLen ds.length = true) : x_tupX fr e = some (.inl (.im (.tuple ds), e1)) := by
  unfold x_tupX
  rw [h]
  dsimp only
  rw [k]
  dsimp only
  rw [if_pos hl]
def retG (G : List PyData → Option Ro) (fa : Fa) : Fsx := x_ret (x_tupX (ax_cons (xE (x_c (.str "is"))) (ax_cons (x_callX G [] fa) (xA a_nil))))
def rowG (j : Int) (G : List PyData → Option Ro) (rest : Fsx) : Fsx := x_seq (x_ifS (t_of (x_bin p_eq (x_var 0) (x_c (.int j)))) (retG G (a_cons (x_var 1) a_nil)) (xS s_nx)) rest
theorem ret_inr {G : List PyData → Option Ro} {fa : Fa} {e : Ev} {ds : List PyData} {x : Xc} (ha : argsI fa e = some (ds, e)) (h : G ds = some (.inr x)) : retG G fa e = some (.inr (x, e)) :=
  xret_inr (tupX_inr (axc_inr2 (r := .im (.str "is")) (e1 := e) rfl (axc_inr (callX_inr ha (by rw [List.append_nil]; exact h)))))
theorem ret_inl {G : List PyData → Option Ro} {fa : Fa} {e : Ev} {ds : List PyData} {d : PyData} (ha : argsI fa e = some (ds, e)) (h : G ds = some (.inl (.im d))) : retG G fa e = some (.inl (.rt (.im (.tuple [.str "is", d])) e)) :=
  xret_inl (tupX_inl (ds := [.str "is", d]) (axc_inl (r := .im (.str "is")) (e1 := e) rfl (axc_inl (callX_inl ha (by rw [List.append_nil]; exact h)) (rs := []) (e2 := e) rfl)) rfl rfl)
section
variable {k j : Int} {v : PyData} {G : List PyData → Option Ro} {rest : Fsx} {o : Option (Ex Fl)}
abbrev E2 (k : Int) (v : PyData) : Ev := [im (.int k), im v, none]
theorem tst (k j : Int) (v : PyData) : t_of (x_bin p_eq (x_var 0) (x_c (.int j))) (E2 k v) = some (decide (k = j), E2 k v) := bang (binX (vI rfl) cI rfl rfl e_eq)
theorem row_skip (h : decide (k = j) = false) (q : rest (E2 k v) = o) : rowG j G rest (E2 k v) = o := by
  unfold rowG
  have t := tst k j v
  rw [h] at t
  rw [xseq_nx (e1 := E2 k v) ((x_ifSF t).trans rfl)]
  exact q
theorem row_inr {x : Xc} (h : decide (k = j) = true) (q : G [v] = some (.inr x)) : rowG j G rest (E2 k v) = some (.inr (x, E2 k v)) := by
  unfold rowG
  have t := tst k j v
  rw [h] at t
  exact xseq_inr ((x_ifST t).trans (ret_inr (aI (vI rfl) a0) q))
theorem row_inl {d : PyData} (h : decide (k = j) = true) (q : G [v] = some (.inl (.im d))) : rowG j G rest (E2 k v) = some (.inl (.rt (.im (.tuple [.str "is", d])) (E2 k v))) := by
  unfold rowG
  have t := tst k j v
  rw [h] at t
  exact xseq_rt ((x_ifST t).trans (ret_inl (aI (vI rfl) a0) q))
end
def askB : Fsx := rowG 0 FX_track_of (rowG 1 FX_mirrored (rowG 2 FX_line_reads (rowG 3 FX_line_writes (rowG 4 FX_cut_of (rowG 5 FX_parts_of (rowG 6 FX_bases_from (x_seq (retG FX_turns_of (a_cons (x_var 1) a_nil)) (xS s_nx))))))))
def askG : Nat → List PyData → Option Ro
  | 0 => FX_track_of
  | 1 => FX_mirrored
  | 2 => FX_line_reads
  | 3 => FX_line_writes
  | 4 => FX_cut_of
  | 5 => FX_parts_of
  | 6 => FX_bases_from
  | _ => FX_turns_of
theorem ask_inr {k : Nat} (hk : k < 8) {v : PyData} {x : Xc} (h : askG k [v] = some (.inr x)) : askB (E2 (k : Int) v) = some (.inr (x, E2 (k : Int) v)) := by
  have : k = 0 ∨ k = 1 ∨ k = 2 ∨ k = 3 ∨ k = 4 ∨ k = 5 ∨ k = 6 ∨ k = 7 := by omega
  unfold askB
  rcases this with rfl | rfl | rfl | rfl | rfl | rfl | rfl | rfl
  · exact row_inr rfl h
  · exact row_skip rfl (row_inr rfl h)
  · exact row_skip rfl (row_skip rfl (row_inr rfl h))
  · exact row_skip rfl (row_skip rfl (row_skip rfl (row_inr rfl h)))
  · exact row_skip rfl (row_skip rfl (row_skip rfl (row_skip rfl (row_inr rfl h))))
  · exact row_skip rfl (row_skip rfl (row_skip rfl (row_skip rfl (row_skip rfl (row_inr rfl h)))))
  · exact row_skip rfl (row_skip rfl (row_skip rfl (row_skip rfl (row_skip rfl (row_skip rfl (row_inr rfl h))))))
  · exact row_skip rfl (row_skip rfl (row_skip rfl (row_skip rfl (row_skip rfl (row_skip rfl (row_skip rfl (xseq_inr (ret_inr (aI (vI rfl) a0) h))))))))
theorem ask_inl {k : Nat} (hk : k < 8) {v d : PyData} (h : askG k [v] = some (.inl (.im d))) : askB (E2 (k : Int) v) = some (.inl (.rt (.im (.tuple [.str "is", d])) (E2 (k : Int) v))) := by
  have : k = 0 ∨ k = 1 ∨ k = 2 ∨ k = 3 ∨ k = 4 ∨ k = 5 ∨ k = 6 ∨ k = 7 := by omega
  unfold askB
  rcases this with rfl | rfl | rfl | rfl | rfl | rfl | rfl | rfl
  · exact row_inl rfl h
  · exact row_skip rfl (row_inl rfl h)
  · exact row_skip rfl (row_skip rfl (row_inl rfl h))
  · exact row_skip rfl (row_skip rfl (row_skip rfl (row_inl rfl h)))
  · exact row_skip rfl (row_skip rfl (row_skip rfl (row_skip rfl (row_inl rfl h))))
  · exact row_skip rfl (row_skip rfl (row_skip rfl (row_skip rfl (row_skip rfl (row_inl rfl h)))))
  · exact row_skip rfl (row_skip rfl (row_skip rfl (row_skip rfl (row_skip rfl (row_skip rfl (row_inl rfl h))))))
  · exact row_skip rfl (row_skip rfl (row_skip rfl (row_skip rfl (row_skip rfl (row_skip rfl (row_skip rfl (xseq_rt (ret_inl (aI (vI rfl) a0) h))))))))
theorem fld_w (a dd : Addr) (fs : List (Str × V)) (x y : Option Sl) (z : Str) : x_fld xok "NotUsable" a dd 2 "word" [x, y, some (.ob (.xc a dd fs [("at", .int (-1)), ("word", .str z)]))] = some (.im (.str z), [x, y, some (.ob (.xc a dd fs [("at", .int (-1)), ("word", .str z)]))]) := by
  unfold x_fld
  rw [if_pos (by rfl)]
  show (if a = a ∧ dd = dd then _ else _) = _
  rw [if_pos ⟨rfl, rfl⟩]
  rfl
theorem fld_a (a dd : Addr) (fs : List (Str × V)) (x y : Option Sl) (z : Str) : x_fld xok "NotUsable" a dd 2 "at" [x, y, some (.ob (.xc a dd fs [("at", .int (-1)), ("word", .str z)]))] = some (.im (.int (-1)), [x, y, some (.ob (.xc a dd fs [("at", .int (-1)), ("word", .str z)]))]) := by
  unfold x_fld
  rw [if_pos (by rfl)]
  show (if a = a ∧ dd = dd then _ else _) = _
  rw [if_pos ⟨rfl, rfl⟩]
  rfl
abbrev clause : Su := fun k a dd => (s_ret (x_tup (a_cons (x_c (.str "not")) (a_cons (x_fld xok k a dd 2 "word") (a_cons (x_fld xok k a dd 2 "at") a_nil)))))
theorem ask_no {k : Nat} (hk : k < 8) {v : PyData} {z : Str} (h : askG k [v] = some (.inr (nu z))) : f_w_ask (k : Int) v = some (no z) := by
  refine chI_eq (fun _ _ h => h) (t_fnI (enc := idD) rfl ?_)
  show wS g__law_ask (E2 (k : Int) v) _
  have t := x_try_yes (fb := askB) (sub := tabF xtab "NotUsable") (i := 2) (g := clause) (ask_inr hk h) (by rfl) rfl
    (fl := .rt (.im (no z)) (E2 (k : Int) v)) (fun a' dd fs => ⟨.rt (.im (no z)) [im (.int (k : Int)), im v, some (.ob (.xc a' dd fs [("at", .int (-1)), ("word", .str z)]))], ?_, rfl⟩)
  · refine ⟨.rt (.im (no z)) (E2 (k : Int) v), ?_, rfl⟩
    show noX (x_try askB _ 2 _) _ = _
    unfold noX
    rw [t]
  · exact ret (tupI (aI cI (aI (fld_w a' dd fs _ _ z) (aI (fld_a a' dd fs _ _ z) a0))) (Nat.le_of_ble_eq_true rfl))
theorem ask_yes {k : Nat} (hk : k < 8) {v d : PyData} (h : askG k [v] = some (.inl (.im d))) : f_w_ask (k : Int) v = some (.tuple [.str "is", d]) := by
  refine chI_eq (fun _ _ h => h) (t_fnI (enc := idD) rfl ?_)
  show wS g__law_ask (E2 (k : Int) v) _
  have t := x_try_no (fb := askB) (sub := tabF xtab "NotUsable") (i := 2) (g := clause) (ask_inl hk h)
  refine ⟨.rt (.im (.tuple [.str "is", d])) (E2 (k : Int) v), ?_, rfl⟩
  show noX (x_try askB _ 2 _) _ = _
  unfold noX
  rw [t]
theorem two_no {a b : PyData} {z : Str} (h : FX_joined_plans [a, b] = some (.inr (nu z))) : f_w_ask_two a b = some (no z) := by
  refine chI_eq (fun _ _ h => h) (t_fnI (enc := idD) rfl ?_)
  show wS g__law_ask_two [im a, im b, none] _
  have q : retG FX_joined_plans (a_cons (x_var 0) (a_cons (x_var 1) a_nil)) [im a, im b, none] = some (.inr (nu z, [im a, im b, none])) := ret_inr (aI (vI rfl) (aI (vI rfl) a0)) h
  have t := x_try_yes (fb := retG FX_joined_plans (a_cons (x_var 0) (a_cons (x_var 1) a_nil))) (sub := tabF xtab "NotUsable") (i := 2) (g := clause) q (by rfl) rfl
    (fl := .rt (.im (no z)) [im a, im b, none]) (fun a' dd fs => ⟨.rt (.im (no z)) [im a, im b, some (.ob (.xc a' dd fs [("at", .int (-1)), ("word", .str z)]))], ?_, rfl⟩)
  · refine ⟨.rt (.im (no z)) [im a, im b, none], ?_, rfl⟩
    show noX (x_try (retG FX_joined_plans (a_cons (x_var 0) (a_cons (x_var 1) a_nil))) _ 2 _) _ = _
    unfold noX
    rw [t]
  · exact ret (tupI (aI cI (aI (fld_w a' dd fs _ _ z) (aI (fld_a a' dd fs _ _ z) a0))) (Nat.le_of_ble_eq_true rfl))
section
variable {v w : PyData} {z : Str}
theorem rz (w : PyData) (e : Ev) (z : PyData) (fa : Fa) (h : argsI fa e = some ([z, .int (-1)], e)) : x_raise "NotUsable" ["word", "at"] fa e = some (.inr (⟨"NotUsable", [("at", .int (-1)), ("word", z)]⟩, e)) := by
  unfold x_raise
  rw [h]
  rfl
theorem np_no (h : F_is_nested [v] = some (.im (.bool false))) : F_need_plan [.str z, v] = none := by
  refine runF_no ?_
  refine (s_ifT (e1 := [im (.str z), im v]) ?_).trans rfl
  exact tnot (b := false) (bang (callI (aI (vI rfl) a0) rfl h))
theorem np_inr (h : F_is_nested [v] = some (.im (.bool false))) : FX_need_plan [.str z, v] = some (.inr (nu z)) := by
  refine orRx_no (np_no h) (runX_inr (e := [im (.str z), im v]) rfl ((x_ifST (e1 := [im (.str z), im v]) ?_).trans ?_))
  · exact tnot (b := false) (bang (callI (aI (vI rfl) a0) rfl h))
  · exact rz v _ (.str z) _ (aI (vI rfl) (aI (negI cI) a0))
theorem nt_no (h : F_is_track [v] = some (.im (.bool false))) : F__need_track [v] = none := by
  refine runF_no ?_
  refine (s_ifT (e1 := [im v]) ?_).trans rfl
  exact tnot (b := false) (bang (callI (aI (vI rfl) a0) rfl h))
theorem nt_inr (h : F_is_track [v] = some (.im (.bool false))) : FX__need_track [v] = some (.inr (nu "track")) := by
  refine orRx_no (nt_no h) (runX_inr (e := [im v]) rfl ((x_ifST (e1 := [im v]) ?_).trans ?_))
  · exact tnot (b := false) (bang (callI (aI (vI rfl) a0) rfl h))
  · exact rz v _ (.str "track") _ (aI cI (aI (negI cI) a0))
theorem nc_no (h : F_is_nested [v] = some (.im (.bool false))) : F__need_changes [v] = none := runF_no (sseq_no (drop_no (call_no (aI cI (aI (vI rfl) a0)) (np_no h))))
theorem nc_inr (h : F_is_nested [v] = some (.im (.bool false))) : FX__need_changes [v] = some (.inr (nu "bases")) := orRx_no (nc_no h) (runX_inr rfl (xseq_inr (xdrop_inr (callX_inr (aI cI (aI (vI rfl) a0)) (np_inr h)))))
theorem to_no (h : F_is_nested [v] = some (.im (.bool false))) : F_track_of [v] = none := runF_no (sseq_no (drop_no (call_no (aI cI (aI (vI rfl) a0)) (np_no h))))
theorem to_inr (h : F_is_nested [v] = some (.im (.bool false))) : FX_track_of [v] = some (.inr (nu "bases")) := orRx_no (to_no h) (runX_inr rfl (xseq_inr (xdrop_inr (callX_inr (aI cI (aI (vI rfl) a0)) (np_inr h)))))
theorem argN {f : Fe} {fa : Fa} {e : Ev} (h : f e = none) : argsI (a_cons f fa) e = none := by
  rw [r_argsI, r_a_cons, h]
theorem callN {φ : List PyData → Option Rs} {dds : List PyData} {fa : Fa} {e : Ev} (h : argsI fa e = none) : x_call φ dds fa e = none := by
  rw [r_x_call, h]
theorem mi_inr (h : F_is_nested [v] = some (.im (.bool false))) : FX_mirrored [v] = some (.inr (nu "bases")) := by
  refine orRx_no (runF_no (ret_no (callN (argN (call_no (aI (vI rfl) a0) (to_no h)))))) (runX_inr (e := [im v]) rfl (xret_inr ?_))
  have q : ax_cons (x_callX FX_track_of [] (a_cons (x_var 0) a_nil)) (xA (a_cons (x_c (.bool true)) a_nil)) [im v] = some (.inr (nu "bases", [im v])) := axc_inr (callX_inr (aI (vI rfl) a0) (to_inr h))
  show x_upX _ _ [im v] = _
  unfold x_upX
  rw [q]
theorem lr_inr (h : F_is_nested [v] = some (.im (.bool false))) : FX_line_reads [v] = some (.inr (nu "bases")) := orRx_no (runF_no (sseq_no (drop_no (call_no (aI cI (aI (vI rfl) a0)) (np_no h))))) (runX_inr rfl (xseq_inr (xdrop_inr (callX_inr (aI cI (aI (vI rfl) a0)) (np_inr h)))))
theorem lw_inr (h : F_is_nested [v] = some (.im (.bool false))) : FX_line_writes [v] = some (.inr (nu "bases")) := orRx_no (runF_no (sseq_no (drop_no (call_no (aI cI (aI (vI rfl) a0)) (np_no h))))) (runX_inr rfl (xseq_inr (xdrop_inr (callX_inr (aI cI (aI (vI rfl) a0)) (np_inr h)))))
theorem cu_inr (h : F_is_nested [v] = some (.im (.bool false))) : FX_cut_of [v] = some (.inr (nu "bases")) := orRx_no (runF_no (sseq_no (drop_no (call_no (aI (vI rfl) a0) (nc_no h))))) (runX_inr rfl (xseq_inr (xdrop_inr (callX_inr (aI (vI rfl) a0) (nc_inr h)))))
theorem pa_inr (h : F_is_nested [v] = some (.im (.bool false))) : FX_parts_of [v] = some (.inr (nu "bases")) := orRx_no (runF_no (sseq_no (drop_no (call_no (aI (vI rfl) a0) (nc_no h))))) (runX_inr rfl (xseq_inr (xdrop_inr (callX_inr (aI (vI rfl) a0) (nc_inr h)))))
theorem bf_inr (h : F_is_track [v] = some (.im (.bool false))) : FX_bases_from [v] = some (.inr (nu "track")) := orRx_no (runF_no (sseq_no (drop_no (call_no (aI (vI rfl) a0) (nt_no h))))) (runX_inr rfl (xseq_inr (xdrop_inr (callX_inr (aI (vI rfl) a0) (nt_inr h)))))
theorem tu_inr (h : F_is_track [v] = some (.im (.bool false))) : FX_turns_of [v] = some (.inr (nu "track")) := orRx_no (runF_no (sseq_no (drop_no (call_no (aI (vI rfl) a0) (nt_no h))))) (runX_inr rfl (xseq_inr (xdrop_inr (callX_inr (aI (vI rfl) a0) (nt_inr h)))))
/-- the first six -/
theorem ask_bad (h : f_is_nested v = some false) {k : Nat} (hk : k < 6) : f_w_ask (k : Int) v = some (no "bases") := by
  have q : F_is_nested [v] = some (.im (.bool false)) := k_is_nested h
  have : k = 0 ∨ k = 1 ∨ k = 2 ∨ k = 3 ∨ k = 4 ∨ k = 5 := by omega
  rcases this with rfl | rfl | rfl | rfl | rfl | rfl
  · exact ask_no (k := 0) (by omega) (to_inr q)
  · exact ask_no (k := 1) (by omega) (mi_inr q)
  · exact ask_no (k := 2) (by omega) (lr_inr q)
  · exact ask_no (k := 3) (by omega) (lw_inr q)
  · exact ask_no (k := 4) (by omega) (cu_inr q)
  · exact ask_no (k := 5) (by omega) (pa_inr q)
theorem ask_tr (h : f_is_track v = some false) : f_w_ask 6 v = some (no "track") ∧ f_w_ask 7 v = some (no "track") := by
  have q : F_is_track [v] = some (.im (.bool false)) := k_is_track h
  exact ⟨ask_no (k := 6) (by omega) (bf_inr q), ask_no (k := 7) (by omega) (tu_inr q)⟩
theorem two_one (h : f_is_nested v = some false) : f_w_ask_two v w = some (no "one") := by
  have q : F_is_nested [v] = some (.im (.bool false)) := k_is_nested h
  exact two_no (orRx_no (runF_no (sseq_no (drop_no (call_no (aI cI (aI (vI rfl) a0)) (np_no q))))) (runX_inr rfl (xseq_inr (xdrop_inr (callX_inr (aI cI (aI (vI rfl) a0)) (np_inr q))))))
theorem two_other {t : Tr} (ht : t.sz ≤ 250) (h : f_is_nested w = some false) : f_w_ask_two ((tp PyData.int) t.pl) w = some (no "other") := by
  have q : F_is_nested [w] = some (.im (.bool false)) := k_is_nested h
  have p : F_need_plan [.str "one", (tp PyData.int) t.pl] = some (.im (nn ())) := k_need_plan (n_plan ht)
  have px : FX_need_plan [.str "one", (tp PyData.int) t.pl] = some (.inl (.im (nn ()))) := orRx_of p
  exact two_no (orRx_no (runF_no ((sseq_nx (drop_ok (callI (aI cI (aI (vI rfl) a0)) rfl p))).trans (sseq_no (drop_no (call_no (aI cI (aI (vI rfl) a0)) (np_no q)))))) (runX_inr rfl ((xseq_nx (xdrop_inl (callX_inl (aI cI (aI (vI rfl) a0)) px))).trans (xseq_inr (xdrop_inr (callX_inr (aI cI (aI (vI rfl) a0)) (np_inr q)))))))
end
theorem ask_from {t : Tr} (h : t.sz ≤ 100000) : f_w_ask 6 (PyData.str (trS t)) = some (.tuple [.str "is", (tp PyData.int) t.pl]) := ask_yes (k := 6) (by omega) (orRx_of (k_bases_from (v_from h)))
theorem ask_turns {t : Tr} (h : t.sz ≤ 100000) : f_w_ask 7 (PyData.str (trS t)) = some (.tuple [.str "is", (tp (p2 PyData.int PyData.int)) (t.lf'.zip t.rg')]) := ask_yes (k := 7) (by omega) (orRx_of (k_turns_of (v_turns h)))
theorem ask_empty : f_w_ask 4 ((tp PyData.int) []) = some (no "bases") ∧ f_w_ask 5 ((tp PyData.int) []) = some (no "bases") := ⟨ask_no (k := 4) (by omega) (by kernel_rfl), ask_no (k := 5) (by omega) (by kernel_rfl)⟩
theorem forG_any {X ρ : Type} {body : X → Unit → Option (Lp Unit ρ)} {r : ρ} : ∀ {l : List X}, (∀ a ∈ l, body a () = some (.nx ()) ∨ body a () = some (.rt r)) → (∃ a ∈ l, body a () = some (.rt r)) → forG body l () = some (.rt r)
  | [], _, h => by
    obtain ⟨a, m, _⟩ := h
    cases m
  | a :: l, h1, h2 => by
    rcases h1 a List.mem_cons_self with c | c
    · refine forG_cons c (forG_any (fun b m => h1 b (List.mem_cons_of_mem _ m)) ?_)
      obtain ⟨b, m, q⟩ := h2
      rcases List.mem_cons.mp m with m | m
      · subst m
        rw [c] at q
        cases q
      · exact ⟨b, m, q⟩
    · exact forG_rt c
theorem plan_row {l : List Int} {z : Nat} {x : Int} (hl : l.length ≤ 1000) (hx : l[z]? = some x) :
    ((0 ≤ x ∧ x ≤ (z : Int) ∧ ∀ (k : Nat) (y : Int), x ≤ (k : Int) → k < z → l[k]? = some y → x ≤ y) → f_w_is_plan_L1 l (z : Int) = some (.nx ())) ∧
    (¬ (0 ≤ x ∧ x ≤ (z : Int) ∧ ∀ (k : Nat) (y : Int), x ≤ (k : Int) → k < z → l[k]? = some y → x ≤ y) → f_w_is_plan_L1 l (z : Int) = some (.rt false)) := by
  have zl := (List.getElem?_eq_some_iff.mp hx).1
  have ax : atI l (z : Int) = some x := by rw [atI_nn]; exact hx
  unfold f_w_is_plan_L1
  by_cases c1 : x < 0
  · refine ⟨fun h => absurd h.1 (by omega), fun _ => bs ax (bs (a := true) ?_ (iT rfl rfl))⟩
    rw [decide_eq_true c1]
    rfl
  by_cases c2 : (z : Int) < x
  · refine ⟨fun h => absurd h.2.1 (by omega), fun _ => bs ax (bs (a := true) ?_ (iT rfl rfl))⟩
    show (if decide (x < 0) = true then _ else _) = _
    rw [if_neg (by rw [decide_eq_false c1]; exact Bool.false_ne_true)]
    exact bs ax (by rw [decide_eq_true c2])
  obtain ⟨n, rfl⟩ : ∃ n : Nat, x = (n : Int) := ⟨x.toNat, by omega⟩
  have rng : rngO ((n : Int) + 1) ((z : Int) + 1) = some ((List.range (z - n)).map fun k => ((n + 1 + k : Nat) : Int)) := by
    have := rngO_v (v := n + 1) (n := z) (by omega) (by omega)
    rw [show z + 1 - (n + 1) = z - n by omega] at this
    exact this
  have head : (orO (decide ((n : Int) < 0)) ((atI l (z : Int)).bind fun t5 => some (decide ((z : Int) < t5)))) = some false := orFF (decide_eq_false c1) (bs ax (by rw [decide_eq_false c2]))
  have row : ∀ k, k < z - n → ∃ y, l[n + k]? = some y ∧ (f_w_is_plan_L2 l (z : Int) ((n + 1 + k : Nat) : Int) = if decide (y < (n : Int)) = true then some (.rt false) else some (.nx ())) := fun k hk => by
    obtain ⟨y, hy⟩ : ∃ y, l[n + k]? = some y := ⟨_, List.getElem?_eq_getElem (by omega)⟩
    refine ⟨y, hy, ?_⟩
    unfold f_w_is_plan_L2
    refine bs ax (bs (a := y) ?_ rfl)
    rw [show ((n + 1 + k : Nat) : Int) - 1 = ((n + k : Nat) : Int) by omega, atI_nn]
    exact hy
  constructor
  · rintro ⟨_, _, h3⟩
    refine bs ax (bs head (iF rfl (bs ax (bs rng (thenR (fun k hk => ?_) rfl)))))
    obtain ⟨y, hy, e⟩ := row k hk
    have := h3 (n + k) y (by omega) (by omega) hy
    rw [e, if_neg (by rw [decide_eq_false (by omega)]; exact Bool.false_ne_true)]
  · intro h
    refine bs ax (bs head (iF rfl (bs ax (bs rng ?_))))
    have ex : ∃ k, k < z - n ∧ ∃ y, l[n + k]? = some y ∧ y < (n : Int) := by
      apply Classical.byContradiction
      intro q
      refine h ⟨by omega, by omega, fun k y h1 h2 h3 => ?_⟩
      apply Int.not_lt.mp
      intro c
      exact q ⟨k - n, by omega, y, by rw [show n + (k - n) = k by omega]; exact h3, c⟩
    have g : forG (fun x_2 (s_ : Unit) => f_w_is_plan_L2 l (z : Int) x_2) ((List.range (z - n)).map fun k => ((n + 1 + k : Nat) : Int)) () = some (.rt false) := by
      refine forG_any (fun a m => ?_) ?_
      · obtain ⟨k, hk, rfl⟩ := List.mem_map.mp m
        obtain ⟨y, hy, e⟩ := row k (List.mem_range.mp hk)
        rw [e]
        by_cases c : y < (n : Int)
        · rw [if_pos (decide_eq_true c)]
          exact .inr rfl
        · rw [if_neg (by rw [decide_eq_false c]; exact Bool.false_ne_true)]
          exact .inl rfl
      · obtain ⟨k, hk, y, hy, c⟩ := ex
        refine ⟨_, List.mem_map.mpr ⟨k, List.mem_range.mpr hk, rfl⟩, ?_⟩
        obtain ⟨y2, hy2, e⟩ := row k hk
        rw [hy] at hy2
        cases hy2
        rw [e, if_pos (decide_eq_true c)]
    exact (thenL_rt g).trans rfl
theorem grow_no : ∀ (l : List Int) (u : Tr), u.grow l = none → ∃ (l1 l2 : List Int) (x : Int) (v : Tr), l = l1 ++ x :: l2 ∧ u.grow l1 = some v ∧ ¬ x ∈ v.ch
  | [], u, h => by cases h
  | x :: l, u, h => by
    have h : (if x ∈ u.ch then Tr.grow (u.app (u.ch.idxOf x)) l else none) = none := h
    by_cases c : x ∈ u.ch
    · rw [if_pos c] at h
      obtain ⟨l1, l2, y, v, h1, h2, h3⟩ := grow_no l _ h
      refine ⟨x :: l1, l2, y, v, by rw [h1]; rfl, ?_, h3⟩
      show (if x ∈ u.ch then Tr.grow (u.app (u.ch.idxOf x)) l1 else none) = _
      rw [if_pos c]
      exact h2
    · exact ⟨[], l, x, u, rfl, rfl, c⟩
theorem w_is_plan {l : List Int} (hl : l.length ≤ 1000) : f_w_is_plan l = some (Tr.lf.grow l).isSome := by
  unfold f_w_is_plan
  refine bs (rng1O_n (by omega)) ?_
  have at_ : ∀ z, z < l.length → ∃ x, l[z]? = some x := fun z hz => ⟨_, List.getElem?_eq_getElem hz⟩
  cases h : Tr.lf.grow l with
  | some t =>
    refine thenR (fun z hz => ?_) rfl
    obtain ⟨x, hx⟩ := at_ z hz
    obtain ⟨h1, h2⟩ := Tr.grow_pl l _ t h
    have h1 : t.pl = l := h1
    have h2 : t.sz = l.length := by
      rw [h2]
      show 0 + _ = _
      omega
    obtain ⟨u, y, u1, u2, u3, u4⟩ := Tr.pre t.sz t rfl z (by omega)
    rw [h1, hx] at u3
    cases u3
    obtain ⟨k1, k2, k3⟩ := (u.ch_iff x).mp u4
    refine (plan_row hl hx).1 ⟨k1, by omega, fun k w h3 h4 h5 => k3 k w h3 ?_⟩
    rw [u2, h1, List.getElem?_take_of_lt h4]
    exact h5
  | none =>
    obtain ⟨l1, l2, x, v, e1, e2, e3⟩ := grow_no l _ h
    obtain ⟨h1, h2⟩ := Tr.grow_pl l1 _ v e2
    have h1 : v.pl = l1 := h1
    have h2 : v.sz = l1.length := by
      rw [h2]
      show 0 + _ = _
      omega
    have hx : l[l1.length]? = some x := by
      rw [e1, List.getElem?_append_right (Nat.le_refl _), Nat.sub_self]
      rfl
    have g : forG (fun x_1 (s_ : Unit) => f_w_is_plan_L1 l x_1) ((List.range l.length).map fun (k : Nat) => (k : Int)) () = some (.rt false) := by
      refine forG_any (fun a m => ?_) ⟨(l1.length : Int), List.mem_map.mpr ⟨l1.length, List.mem_range.mpr (List.getElem?_eq_some_iff.mp hx).1, rfl⟩, ?_⟩
      · obtain ⟨z, hz, rfl⟩ := List.mem_map.mp m
        obtain ⟨y, hy⟩ := at_ z (List.mem_range.mp hz)
        obtain ⟨p1, p2⟩ := plan_row hl hy
        by_cases c : 0 ≤ y ∧ y ≤ (z : Int) ∧ ∀ (k : Nat) (w : Int), y ≤ (k : Int) → k < z → l[k]? = some w → y ≤ w
        · exact .inl (p1 c)
        · exact .inr (p2 c)
      · refine (plan_row hl hx).2 fun ⟨k1, k2, k3⟩ => e3 ((v.ch_iff x).mpr ⟨k1, by omega, fun k w h3 h4 => ?_⟩)
        rw [h1] at h4
        have hk := (List.getElem?_eq_some_iff.mp h4).1
        refine k3 k w h3 hk ?_
        rw [e1, List.getElem?_append_left hk]
        exact h4
    exact (thenL_rt g).trans rfl
end K24
namespace K24
open PySem PySem.Spec PyProof.Rows L2 DL
def plain : Nat → PyData → Prop
  | N + 1, .tuple l => ∀ x ∈ l, plain N x
  | _ + 1, .int _ => True
  | _ + 1, .bool _ => True
  | _ + 1, .str z => PyData.strOk z = true
  | _, _ => False
theorem same_self : ∀ (N : Nat) (d : PyData), plain N d → f_w_same_R N d d = some true
  | 0, d, h => by cases d <;> exact h.elim
  | N + 1, .int i, _ => by
    show f_w_same_B (f_w_same_R N) (.int i) (.int i) = some true
    unfold f_w_same_B
    refine bs (a := false) rfl (iF rfl (bs (a := false) rfl (iF rfl (bs (a := true) rfl (iT rfl (bs (a := true) rfl (bs (a := true) (andT1 (bs (a := false) rfl (bs (a := true) (andT1 (bs (a := true) ?_ rfl)) rfl))) rfl)))))))
    rw [bD_eq (f := PyData.int) (by decide), decide_eq_true rfl]
  | N + 1, .bool b, _ => by
    show f_w_same_B (f_w_same_R N) (.bool b) (.bool b) = some true
    unfold f_w_same_B
    refine bs (a := false) rfl (iF rfl (bs (a := true) rfl (iT rfl (bs (a := true) rfl (bs (a := true) (andT1 (bs (a := true) ?_ rfl)) rfl)))))
    rw [bD_eq (f := PyData.bool) (by decide), decide_eq_true rfl]
  | N + 1, .str z, h => by
    have h : PyData.strOk z = true := h
    show f_w_same_B (f_w_same_R N) (.str z) (.str z) = some true
    unfold f_w_same_B
    refine bs (a := false) rfl (iF rfl (bs (a := false) rfl (iF rfl (bs (a := false) rfl (iF rfl (bs (a := true) rfl (bs (a := true) (andT1 (bs (a := true) rfl (bs (a := true) (andT1 (bs (a := true) ?_ rfl)) rfl))) rfl)))))))
    have sh : SeqAt.shaped (.str z) = true := by
      unfold SeqAt.shaped
      rw [PyData.canLay0, h, PyData.depth]
      rfl
    unfold p_eq
    rw [sh, PyData.eqv]
    simp [bD]
  | N + 1, .tuple l, h => by
    have h : ∀ x ∈ l, plain N x := h
    show f_w_same_B (f_w_same_R N) (.tuple l) (.tuple l) = some true
    unfold f_w_same_B
    refine bs (a := true) rfl (iT rfl (bs (a := true) rfl (bs (a := false) (orFF rfl (bs (a := (l.length : Int)) rfl (bs (a := (l.length : Int)) rfl ?_))) (iF rfl (bs (a := l.zip l) rfl (thenA (fun x m => ?_) rfl))))))
    · rw [ne_no rfl]
    · unfold f_w_same_L1
      have e : x.1 = x.2 ∧ x.1 ∈ l := by
        induction l with
        | nil => cases m
        | cons a l ih =>
          rw [List.zip_cons_cons] at m
          rcases List.mem_cons.mp m with m | m
          · subst m
            exact ⟨rfl, List.mem_cons_self⟩
          · obtain ⟨e1, e2⟩ := ih (fun y hy => h y (List.mem_cons_of_mem _ hy)) (fun y hy => h y (List.mem_cons_of_mem _ hy)) m
            exact ⟨e1, List.mem_cons_of_mem _ e2⟩
      obtain ⟨e1, e2⟩ := e
      rw [← e1]
      exact bs (same_self N x.1 (h x.1 e2)) (iF rfl rfl)
  | N + 1, .none, h => h.elim
  | N + 1, .list _, h => h.elim
  | N + 1, .dict _, h => h.elim
theorem same_d {d : PyData} (h : plain 24 d) : f_w_same d d = some true := same_self 24 d h
theorem pl_ints {N : Nat} (l : List Int) : plain (N + 2) ((tp PyData.int) l) := fun x m => by
  obtain ⟨i, _, rfl⟩ := List.mem_map.mp m
  exact True.intro
theorem same_t (l : List Int) : f_w_same ((tp PyData.int) l) ((tp PyData.int) l) = some true := same_d (pl_ints (N := 22) l)
theorem same_I (i : Int) : f_w_same (PyData.int i) (PyData.int i) = some true := same_d (d := .int i) True.intro
theorem same_b (b : Bool) : f_w_same (PyData.bool b) (PyData.bool b) = some true := same_d (d := .bool b) True.intro
theorem pl_pairs {N : Nat} (l : List (Int × Int)) : plain (N + 3) ((tp (p2 PyData.int PyData.int)) l) := fun x m => by
  obtain ⟨i, _, rfl⟩ := List.mem_map.mp m
  intro y hy
  rcases List.mem_cons.mp hy with c | hy
  · rw [c]
    exact True.intro
  · rcases List.mem_cons.mp hy with c | hy
    · rw [c]
      exact True.intro
    · cases hy
theorem same_pairs (l : List (Int × Int)) : f_w_same ((tp (p2 PyData.int PyData.int)) l) ((tp (p2 PyData.int PyData.int)) l) = some true := same_d (pl_pairs (N := 21) l)
theorem same_two (a b : List Int) : f_w_same ((p2 (tp PyData.int) (tp PyData.int)) (a, b)) ((p2 (tp PyData.int) (tp PyData.int)) (a, b)) = some true := same_d fun x m => by
  rcases List.mem_cons.mp m with c | m
  · rw [c]
    exact pl_ints (N := 21) a
  · rcases List.mem_cons.mp m with c | m
    · rw [c]
      exact pl_ints (N := 21) b
    · cases m
theorem sg_ok {z : Str} (h : Sg z) : PyData.strOk z = true := by
  unfold PyData.strOk
  rw [Array.all_eq_true']
  intro c m
  have m2 : (⟨#[c]⟩ : Str) ∈ DL.signs z := List.mem_map.mpr ⟨c, Array.mem_toList_iff.mpr m, rfl⟩
  have get : ∀ (y : Str) (k : Nat), (⟨#[c]⟩ : Str) = y → y.cps.toList = [k] → c = k := fun y k e1 e2 => by
    rw [← e1] at e2
    simpa using e2
  rcases h _ m2 with e | e | e
  · rw [get _ 43 e (by kernel_rfl)]
    decide
  · rw [get _ 45 e (by kernel_rfl)]
    decide
  · rw [get _ 32 e (by kernel_rfl)]
    decide
theorem sg_trk (t : Tr) : Sg (trS t) := fun w m => by
  rw [trS_signs] at m
  rcases trk_sign t w m with c | c
  · exact .inr (.inl c)
  · exact .inl c
theorem same_s {z : Str} (h : Sg z) : f_w_same (PyData.str z) (PyData.str z) = some true := same_d (d := .str z) (sg_ok h)
theorem is_ok : PyData.strOk "is" = true := by kernel_rfl
theorem same_isd {d : PyData} (h : plain 23 d) : f_w_same (.tuple [.str "is", d]) (.tuple [.str "is", d]) = some true := same_d fun x m => by
  rcases List.mem_cons.mp m with c | m
  · rw [c]
    exact is_ok
  · rcases List.mem_cons.mp m with c | m
    · rw [c]
      exact h
    · cases m
theorem e_bases : bD (p_eq (no "bases") ((p3 PyData.str PyData.str PyData.int) (("not" : Str), ("bases" : Str), (-1 : Int)))) = some true := by kernel_rfl
theorem e_track : bD (p_eq (no "track") ((p3 PyData.str PyData.str PyData.int) (("not" : Str), ("track" : Str), (-1 : Int)))) = some true := by kernel_rfl
theorem d_bases : bD (p_ne (no "bases") ((p3 PyData.str PyData.str PyData.int) (("not" : Str), ("bases" : Str), (-1 : Int)))) = some false := by kernel_rfl
theorem d_track : bD (p_ne (no "track") ((p3 PyData.str PyData.str PyData.int) (("not" : Str), ("track" : Str), (-1 : Int)))) = some false := by kernel_rfl
theorem d_one : bD (p_ne (no "one") ((p3 PyData.str PyData.str PyData.int) (("not" : Str), ("one" : Str), (-1 : Int)))) = some false := by kernel_rfl
theorem d_other : bD (p_ne (no "other") ((p3 PyData.str PyData.str PyData.int) (("not" : Str), ("other" : Str), (-1 : Int)))) = some false := by kernel_rfl
theorem line_t {t : Tr} (h : t.sz ≤ 250) : f_is_line_plan ((tp PyData.int) t.pl) = some true := bs (is_nest h) rfl
theorem wrt_split (t : Tr) : Tr.wrt t ++ [0] = t.lf' := t.lf_split.symm
theorem due_of {t : Tr} (h : t.sz ≤ 1000) : lcC (fun _ => some true) (fun x7 => (catO (Tr.wrt t) [(0 : Int)]).bind fun t8 => (atI t8 x7).bind fun t9 => (atI t.rg' x7).bind fun t10 => some (t9, t10)) ((List.range (t.sz + 1)).map fun (k : Nat) => (k : Int)) = some (t.lf'.zip t.rg') := by
  rw [zip_rg t.lf' t.rg' (by rw [t.lf_len, t.rg_len]), t.lf_len]
  refine lcC_rg (by omega) fun k hk => ?_
  refine bs (catO_ok (by rw [wrt_len]; show t.sz + 1 ≤ _; omega)) (bs (a := gv t.lf' (k + 1)) ?_ (bs (atI_at (by rw [t.rg_len]; exact hk)) rfl))
  rw [wrt_split]
  exact atI_at (by rw [t.lf_len]; exact hk)
theorem turned_of {t : Tr} (h : t.sz ≤ 1000) : ∃ l, lcC (fun _ => some true) (fun x28 => (atI (Tr.wrt t) ((t.sz : Int) - x28)).bind fun t29 => some t29) ((List.range t.sz).map fun k => ((k + 1 : Nat) : Int)) = some l ∧ l.length = t.sz ∧ [(0 : Int)] ++ l = t.mir.rg' := by
  have wl := wrt_len t
  refine ⟨(Tr.wrt t).reverse, ?_, by rw [List.length_reverse, wl], ?_⟩
  · have e : (Tr.wrt t).reverse = (List.range t.sz).map fun k => gv (Tr.wrt t).reverse (k + 1) := by
      have := l_rg (Tr.wrt t).reverse
      rwa [List.length_reverse, wl] at this
    rw [e]
    refine lcC_rg (by omega) fun k hk => bs (a := gv (Tr.wrt t).reverse (k + 1)) ?_ rfl
    rw [show (t.sz : Int) - ((k + 1 : Nat) : Int) = ((t.sz - 1 - k : Nat) : Int) by omega, atI_nn]
    have g := gv_get (l := (Tr.wrt t).reverse) (k := k) (by rw [List.length_reverse, wl]; exact hk)
    rw [← g, List.getElem?_reverse (by omega), wl]
  · rw [t.mir_rg, ← wrt_split, List.reverse_append]
    rfl
theorem plan_holds {t : Tr} (h : t.sz ≤ 100) : f_w_plan_holds t.pl = some true := by
  unfold f_w_plan_holds
  have len := t.pl_len
  have hm : t.mir.sz ≤ 100 := by rw [t.mir_sz]; exact h
  obtain ⟨tl, t1, t2, t3⟩ := turned_of (t := t) (by omega)
  have r1 := v_reads (t := t) (by omega)
  have r2 := v_writes (t := t) (by omega)
  have mm : f_mirrored t.mir.pl = some t.pl := by
    have := mirr_t (t := t.mir) (by omega)
    rwa [t.mir_mir] at this
  refine bs rfl (bs (w_reads (by omega)) (bs (w_writes (by omega)) (bs (a := (List.range (t.sz + 1)).map fun (k : Nat) => (k : Int)) ?_ (bs (due_of (by omega)) (bs (track_t (by omega)) (bs (line_t (by omega)) (bs (same_b true) (bs (a := false) (orFF rfl (bs (a := false) (orFF rfl (bs (w_buds (by omega)) (by rw [ne_no rfl]))) rfl)) (iF rfl (bs (v_turns (by omega)) (bs (same_pairs _) (bs (a := false) (orFF rfl (bs (v_from (by omega)) (bs (same_t _) rfl))) (iF rfl
    (bs (a := (List.range t.sz).map fun k => ((k + 1 : Nat) : Int)) ?_ (bs (a := tl) ?_ (bs (catO_ok (by rw [t2]; show 1 + t.sz ≤ _; omega)) (bs (a := t.mir.pl) ?_ (bs (mirr_t (by omega)) (bs (same_t _) (bs (a := false) (orFF rfl (bs mm (bs (same_t _) rfl))) (iF rfl (bs r1 (bs (same_t _) (bs (a := false) (orFF rfl (bs r2 (bs (same_t _) rfl))) (iF rfl ?_)))))))))))))))))))))))))
  · rw [len]
    have := rng1O_n (n := t.sz + 1) (by omega)
    rwa [show ((t.sz + 1 : Nat) : Int) = (t.sz : Int) + 1 by omega] at this
  · rw [len]
    exact rngO_1 (by omega)
  · rw [len]
    exact t1
  · rw [t3]
    exact w_by (by omega)
  · cases t with
    | lf =>
      exact iT rfl (bs ask_empty.1 (bs e_bases (bs (a := true) (andT1 (bs ask_empty.2 (bs e_bases rfl))) rfl)))
    | nd a b =>
      have hz : (Tr.nd a b).sz = a.sz + b.sz + 1 := rfl
      have ra := a.rg_len
      have rb := b.rg_len
      have rgE : (Tr.nd a b).rg' = a.rg' ++ b.rg'.map (· + 1) := rfl
      have cE : a.cut = ((a.sz + 1 : Nat) : Int) := by unfold Tr.cut; omega
      -- the versions with one read
      have at_ : ∀ v : Nat, v ≤ (Tr.nd a b).sz → atI (Tr.nd a b).rg' (v : Int) = some (gv (Tr.nd a b).rg' (v + 1)) := fun v hv => atI_at (by rw [(Tr.nd a b).rg_len]; omega)
      have cv : gv (Tr.nd a b).rg' (a.sz + 1 + 1) = 1 := by
        have g := gv_get (l := (Tr.nd a b).rg') (k := a.sz + 1) (by rw [(Tr.nd a b).rg_len]; omega)
        rw [rgE, List.getElem?_append_right (by omega), ra, Nat.sub_self, List.getElem?_map, b.rg_head] at g
        exact (Option.some.inj g).symm
      have above : ∀ v : Nat, v ≤ (Tr.nd a b).sz → a.sz + 1 < v → 2 ≤ gv (Tr.nd a b).rg' (v + 1) := fun v hv hc => by
        have g := gv_get (l := (Tr.nd a b).rg') (k := v) (by rw [(Tr.nd a b).rg_len]; omega)
        rw [rgE, List.getElem?_append_right (by omega), ra, List.getElem?_map] at g
        cases hy : b.rg'[v - (a.sz + 1)]? with
        | none => rw [hy] at g; cases g
        | some y =>
          rw [hy] at g
          have := b.rg_pos hy (by omega)
          have g : y + 1 = gv (Tr.nd a b).rg' (v + 1) := Option.some.inj g
          omega
      have lcE : lcC (fun x53 => (atI (Tr.nd a b).rg' x53).bind fun t54 => some (decide (t54 = (1 : Int)))) (fun x53 => some x53) ((List.range (Tr.nd a b).sz).map fun k => ((k + 1 : Nat) : Int)) = some (((List.range (Tr.nd a b).sz).map fun k => ((k + 1 : Nat) : Int)).filter fun v => decide (gv (Tr.nd a b).rg' (v.toNat + 1) = 1)) := by
        refine lcC_fl (by rw [List.length_map, List.length_range]; omega) fun v m => ?_
        obtain ⟨k, hk, rfl⟩ := List.mem_map.mp m
        have hk := List.mem_range.mp hk
        exact bs (at_ (k + 1) (by omega)) (by rw [show (((k + 1 : Nat) : Int)).toNat = k + 1 by omega])
      have mx : maxO1 (((List.range (Tr.nd a b).sz).map fun k => ((k + 1 : Nat) : Int)).filter fun v => decide (gv (Tr.nd a b).rg' (v.toNat + 1) = 1)) = some a.cut := by
        have mem : a.cut ∈ ((List.range (Tr.nd a b).sz).map fun k => ((k + 1 : Nat) : Int)).filter fun v => decide (gv (Tr.nd a b).rg' (v.toNat + 1) = 1) := by
          refine List.mem_filter.mpr ⟨List.mem_map.mpr ⟨a.sz, List.mem_range.mpr (by omega), by rw [cE]⟩, decide_eq_true ?_⟩
          rw [cE, show (((a.sz + 1 : Nat) : Int)).toNat = a.sz + 1 by omega]
          exact cv
        rw [maxO1_ok (List.ne_nil_of_mem mem)]
        congr 1
        refine (maxI_uniq mem fun y hy => ?_).symm
        obtain ⟨m1, m2⟩ := List.mem_filter.mp hy
        obtain ⟨k, hk, rfl⟩ := List.mem_map.mp m1
        have hk := List.mem_range.mp hk
        have e := of_decide_eq_true m2
        rw [show (((k + 1 : Nat) : Int)).toNat = k + 1 by omega] at e
        apply Int.not_lt.mp
        intro c
        have := above (k + 1) (by omega) (by omega)
        omega
      have tk : DL.cutD (Tr.nd a b).rg' none (some a.cut) = a.rg' := by
        rw [congrArg some cE, cut_to (by rw [(Tr.nd a b).rg_len]; omega), rgE, ← ra, List.take_left]
      have dr : DL.cutD (Tr.nd a b).rg' (some (a.cut + 1)) none = (b.rg'.map (· + 1)).drop 1 := by
        rw [show a.cut + 1 = ((a.sz + 2 : Nat) : Int) by unfold Tr.cut; omega, cut_from (by rw [(Tr.nd a b).rg_len]; omega), rgE, List.drop_append, List.drop_eq_nil_of_le (by omega), ra, show a.sz + 2 - (a.sz + 1) = 1 by omega]
        rfl
      have lcB : lcC (fun _ => some true) (fun x60 => some (x60 - (1 : Int))) ((b.rg'.map (· + 1)).drop 1) = some (b.rg'.drop 1) := by
        rw [lcC_map (g' := fun x => x - 1) (by rw [List.length_drop, List.length_map]; omega) fun x _ => rfl, ← List.map_drop, List.map_map]
        congr 1
        rw [show ((fun x : Int => x - 1) ∘ (· + 1)) = fun x => x from by funext x; show x + 1 - 1 = x; omega]
        exact List.map_id' _
      have hb : [(0 : Int)] ++ b.rg'.drop 1 = b.rg' := by
        have e := b.rg_head
        cases hl : b.rg' with
        | nil => rw [hl] at rb; cases rb
        | cons x r =>
          rw [hl] at e
          cases e
          rfl
      have cut := v_cut a b (by omega)
      have parts := v_parts a b (by omega)
      refine iF (decide_eq_false (by rw [len]; omega)) (bs (a := (List.range (Tr.nd a b).sz).map fun k => ((k + 1 : Nat) : Int)) (by rw [len]; exact rngO_1 (by omega)) (bs lcE (bs mx (bs (by rw [tk]; exact w_by (by omega)) (bs (by rw [dr]; exact lcB) (bs (catO_ok (by rw [List.length_drop]; show 1 + _ ≤ _; omega)) (bs (by rw [hb]; exact w_by (by omega)) (bs cut (bs (same_I _) (bs (a := false) (orFF rfl (bs parts (bs (same_two _ _) rfl))) (iF rfl (bs cut (bs (same_I _) (bs (a := false) (orFF rfl (bs parts (bs (same_two _ _) rfl))) (iF rfl (bs r1 (bs (same_t _) (iF rfl (bs r2 (bs (same_t _) (iF rfl (bs (v_joined (by omega) (by omega)) (bs (same_t _) rfl)))))))))))))))))))))))
theorem sign_holds {z : Str} (h : Sg z) (hl : z.length ≤ 200) : f_w_sign_holds z = some true := by
  unfold f_w_sign_holds
  by_cases c : cnt 1 (DL.signs z) = some 0
  · obtain ⟨t, rfl⟩ := is_trS c
    have tl := trS_len t
    have len2 : t.rg'.length = t.lf'.length := by rw [t.rg_len, t.lf_len]
    have m2 : lcC (fun _ => some true) (fun x13 : Int × Int => some x13.2) (t.lf'.zip t.rg') = some t.rg' := by
      rw [lcC_map (g' := fun x : Int × Int => x.2) (by have := t.lf_len; have := t.rg_len; rw [List.length_zip]; omega) fun _ _ => rfl]
      congr 1
      exact List.map_snd_zip (by omega)
    refine bs (w_buds (by omega)) (bs (is_tr h) ?_)
    rw [decide_eq_true c]
    refine bs (same_b true) (iF rfl (iF rfl (bs rfl (bs m2 (bs (w_by (by omega)) (bs (ask_from (by omega)) (bs (same_isd (pl_ints (N := 21) t.pl)) (bs (a := false) (orFF rfl (bs (ask_turns (by omega)) (bs (same_isd (pl_pairs (N := 20) (t.lf'.zip t.rg'))) rfl))) (iF rfl (bs (track_t (by omega)) (bs (same_s h) rfl)))))))))))
  · refine bs (no_buds h (by rw [sg_len]; omega) c) (bs (is_tr h) ?_)
    rw [decide_eq_false c]
    have q : f_is_track (PyData.str z) = some false := by
      rw [is_tr h, decide_eq_false c]
    obtain ⟨a6, a7⟩ := ask_tr q
    exact bs (same_b false) (iF rfl (iT rfl (bs a6 (bs e_track (bs (a := true) (andT1 (bs a7 (bs e_track rfl))) rfl)))))
end K24
namespace K24
open PySem PySem.Spec PyProof.Rows L2 DL
theorem num_bad (thing : PyData) {d : PyData} {l : List PyData} {s : List Int × Int} (hd : f_is_number d = some false) : forG (fun x_1 (s_ : List Int × Int) => f_is_nested_L1 thing x_1 s_.1 s_.2) (d :: l) s = some (.rt false) := by
  refine forG_rt ?_
  unfold f_is_nested_L1
  exact bs rfl (bs hd (iT rfl rfl))
theorem bad_at {t : Tr} {d : PyData} {rest : List PyData} (ht : t.sz ≤ 250) (hd : f_is_number d = some false) : f_is_nested (.tuple (t.pl.map PyData.int ++ d :: rest)) = some false := by
  have k := nestG (.tuple (t.pl.map PyData.int ++ d :: rest)) t.pl (d :: rest) Tr.lf t (Tr.grow_of t.sz t rfl) (by rw [t.pl_len]; show 0 + t.sz ≤ _; omega)
  rw [num_bad _ hd] at k
  rw [nested_t k]
  rfl
theorem bad_int {t : Tr} {x : Int} (ht : t.sz ≤ 250) (hx : ¬ x ∈ t.ch) : f_is_nested ((tp PyData.int) (t.pl ++ [x])) = some false := by
  rw [nested_l (by rw [List.length_append, List.length_singleton, t.pl_len]; omega), Tr.grow_app, Tr.grow_of t.sz t rfl]
  show some (if x ∈ t.ch then Tr.grow (t.app (t.ch.idxOf x)) [] else none).isSome = _
  rw [if_neg hx]
  rfl
theorem n_bool (b : Bool) : f_is_number (.bool b) = some false := by cases b <;> kernel_rfl
theorem n_zero : f_is_number (.str "0") = some false := by kernel_rfl
theorem n_none : f_is_number .none = some false := by kernel_rfl
theorem map_id (l : List PyData) : l.map idD = l := List.map_id' l
theorem not_tup {d : PyData} (h : isD .tuple d = some false) : f_is_nested d = some false := by
  unfold f_is_nested
  exact bs h (iT rfl rfl)
theorem cutD_len {α : Type} (l : List α) (lo hi : Option Int) : (DL.cutD l lo hi).length ≤ l.length := by
  unfold DL.cutD
  rw [List.length_take, List.length_drop]
  omega
theorem refused {t : Tr} {k : Nat} (ht : t.sz ≤ 200) (hk : k ≤ 1000) : f_w_refused t.pl (k : Int) = some true := by
  unfold f_w_refused
  have len := t.pl_len
  have lm : (t.pl.map PyData.int).length = t.sz := by rw [List.length_map, len]
  obtain ⟨c6, hc6⟩ : ∃ c, c = DL.cutD t.pl (some (1 : Int)) none := ⟨_, rfl⟩
  have l6 : c6.length ≤ t.sz := by
    rw [hc6, ← len]
    exact cutD_len _ _ _
  have v7 : vD (p_add ((tp PyData.int) t.pl) ((p1 nn) ())) = some (.tuple (t.pl.map PyData.int ++ [.none])) := by
    have q := o_catT (f := idD) (l := t.pl.map PyData.int) (m := [PyData.none]) (catO_ok (by rw [lm]; show t.sz + 1 ≤ _; omega))
    have e1 : tp idD (t.pl.map PyData.int) = (tp PyData.int) t.pl := by
      show PyData.tuple ((t.pl.map PyData.int).map idD) = _
      rw [map_id]
    have e2 : tp idD [PyData.none] = (p1 nn) () := rfl
    have e3 : tp idD (t.pl.map PyData.int ++ [PyData.none]) = .tuple (t.pl.map PyData.int ++ [.none]) := by
      show PyData.tuple ((t.pl.map PyData.int ++ [PyData.none]).map idD) = _
      rw [map_id]
    rw [e1, e2, e3] at q
    rw [q]
    first | rfl | skip
  obtain ⟨odd, ho⟩ : ∃ odd : List PyData, odd = [((ls PyData.int) t.pl), (nn ()), (PyData.str ("-" : Str)), (PyData.int (7 : Int)), ((tp idD) (t.pl.map PyData.int ++ [.bool true])), ((tp PyData.int) (t.pl ++ [-1])), ((tp PyData.int) (t.pl ++ [((t.sz : Int) + 1)])), ((tp idD) (t.pl.map PyData.int ++ [.str "0"])), ((p1 (p1 PyData.int)) (0 : Int)), ((tp idD) ([.bool false] ++ c6.map PyData.int)), (.tuple (t.pl.map PyData.int ++ [.none])), ((p3 PyData.int PyData.bool PyData.int) ((0 : Int), true, (0 : Int))), ((p4 PyData.int PyData.int PyData.bool PyData.int) ((0 : Int), (1 : Int), false, (3 : Int)))] := ⟨_, rfl⟩
  have bad : ∀ d ∈ odd, f_is_nested d = some false := by
    rw [ho]
    intro d m
    rcases List.mem_cons.mp m with c | m
    · rw [c]; exact not_tup rfl
    rcases List.mem_cons.mp m with c | m
    · rw [c]; exact not_tup rfl
    rcases List.mem_cons.mp m with c | m
    · rw [c]; exact not_tup rfl
    rcases List.mem_cons.mp m with c | m
    · rw [c]; exact not_tup rfl
    rcases List.mem_cons.mp m with c | m
    · rw [c]
      show f_is_nested (.tuple ((t.pl.map PyData.int ++ [PyData.bool true]).map idD)) = _
      rw [map_id]
      exact bad_at (by omega) (n_bool true)
    rcases List.mem_cons.mp m with c | m
    · rw [c]
      exact bad_int (by omega) fun h => by
        have := t.ch_nn _ h
        omega
    rcases List.mem_cons.mp m with c | m
    · rw [c]
      exact bad_int (by omega) fun h => by
        obtain ⟨i, hi⟩ := List.mem_iff_getElem?.mp h
        have := t.ch_lt i _ hi
        omega
    rcases List.mem_cons.mp m with c | m
    · rw [c]
      show f_is_nested (.tuple ((t.pl.map PyData.int ++ [PyData.str "0"]).map idD)) = _
      rw [map_id]
      exact bad_at (by omega) n_zero
    rcases List.mem_cons.mp m with c | m
    · rw [c]; kernel_rfl
    rcases List.mem_cons.mp m with c | m
    · rw [c]
      show f_is_nested (.tuple (([PyData.bool false] ++ c6.map PyData.int).map idD)) = _
      rw [map_id]
      exact bad_at (t := .lf) (by show 0 ≤ _; omega) (n_bool false)
    rcases List.mem_cons.mp m with c | m
    · rw [c]; exact bad_at (by omega) n_none
    rcases List.mem_cons.mp m with c | m
    · rw [c]; kernel_rfl
    rcases List.mem_cons.mp m with c | m
    · rw [c]; kernel_rfl
    cases m
  have lo : odd.length = 13 := by rw [ho]; rfl
  have pick : ∀ j : Nat, ∃ d, (modO (((k + j : Nat)) : Int) ((odd.length : Int))) = some (((k + j) % 13 : Nat) : Int) ∧ atI odd (((k + j) % 13 : Nat) : Int) = some d ∧ f_is_nested d = some false := fun j => by
    have hm : (k + j) % 13 < odd.length := by rw [lo]; exact Nat.mod_lt _ (by omega)
    refine ⟨odd[(k + j) % 13], ?_, ?_, bad _ (List.getElem_mem hm)⟩
    · rw [lo, modO_ok (by decide)]
      exact congrArg some (by omega)
    · rw [atI_nn]
      exact List.getElem?_eq_getElem hm
  obtain ⟨fst, f1, f2, f3⟩ := pick 6
  have c1 : catO (t.pl.map PyData.int) [PyData.bool true] = some _ := catO_ok (by rw [lm]; show t.sz + 1 ≤ _; omega)
  have c2 : catO t.pl [(-1 : Int)] = some _ := catO_ok (by rw [len]; show t.sz + 1 ≤ _; omega)
  have c3 : catO t.pl [((t.pl.length : Int) + 1)] = some (t.pl ++ [((t.sz : Int) + 1)]) := by
    rw [catO_ok (by rw [len]; show t.sz + 1 ≤ _; omega), len]
  have c4 : catO (t.pl.map PyData.int) [PyData.str ("0" : Str)] = some _ := catO_ok (by rw [lm]; show t.sz + 1 ≤ _; omega)
  have c5 : catO [PyData.bool false] (c6.map PyData.int) = some _ := catO_ok (by rw [List.length_map]; show 1 + c6.length ≤ _; omega)
  refine bs rfl (bs c1 (bs c2 (bs c3 (bs c4 (bs (by rw [← hc6]; exact c5) (bs v7 (bs (a := odd) (by rw [ho]) (thenA (fun d m => ?_) (bs (rng1O_n (n := 6) (by omega)) (thenR (fun j hj => ?_) (bs (a := (((k + 6) % 13 : Nat) : Int)) ?_ (bs f2 (bs (two_one f3) (bs d_one (bs (a := false) (orFF rfl (bs (two_one f3) (bs d_one rfl))) (iF rfl (bs (two_other (by omega) f3) (bs d_other (iF rfl (thenA (fun d m => ?_) (bs ?_ (bs e_track rfl))))))))))))))))))))))
  · unfold f_w_refused_L1
    exact bs (a := false) (bs (bad d m) rfl) (bs (same_b false) (iF rfl rfl))
  · unfold f_w_refused_L2
    obtain ⟨d, p1, p2, p3⟩ := pick j
    refine bs (a := (((k + j) % 13 : Nat) : Int)) ?_ (bs p2 (bs (ask_bad p3 hj) (bs d_bases (iF rfl rfl))))
    rw [← p1]
    congr 1
  · rw [← f1]
    congr 1
  · unfold f_w_refused_L3
    have q : f_is_track d = some false := by
      rcases List.mem_cons.mp m with c | m
      · rw [c]; kernel_rfl
      rcases List.mem_cons.mp m with c | m
      · rw [c]; kernel_rfl
      rcases List.mem_cons.mp m with c | m
      · rw [c]; kernel_rfl
      rcases List.mem_cons.mp m with c | m
      · rw [c]; kernel_rfl
      rcases List.mem_cons.mp m with c | m
      · rw [c]; kernel_rfl
      rcases List.mem_cons.mp m with c | m
      · rw [c]; kernel_rfl
      rcases List.mem_cons.mp m with c | m
      · rw [c]; kernel_rfl
      cases m
    obtain ⟨a6, a7⟩ := ask_tr q
    exact bs q (bs (same_b false) (bs (a := false) (orFF rfl (bs a6 (bs d_track rfl))) (iF rfl (bs a7 (bs d_track (iF rfl rfl))))))
  · exact (ask_tr (v := (p1 (p2 PyData.int PyData.int)) ((0 : Int), (0 : Int))) (by kernel_rfl)).2
theorem bent {s : Hand} (h : HdOk s) {t : Tr} (h1 : 1 ≤ t.sz) (h2 : t.sz ≤ 100) : ∃ s', f_w_bent_holds s t.pl = some (true, s') ∧ HdOk s' := by
  unfold f_w_bent_holds
  have len := t.pl_len
  obtain ⟨p, s1, k1, k2, k3⟩ := n_take (k := t.pl.length) h (by omega) (Nat.lt_of_le_of_lt (show t.pl.length ≤ 100 by omega) (by decide))
  obtain ⟨x, s2, j1, j2, j3⟩ := n_take (k := p + 3) k3 (by omega) (Nat.lt_of_le_of_lt (show p + 3 ≤ 103 by omega) (by decide))
  obtain ⟨l, hl⟩ : ∃ l, l = t.pl.take p ++ [(x : Int) - 1] ++ t.pl.drop (p + 1) := ⟨_, rfl⟩
  have ll : l.length = t.sz := by
    rw [hl, List.length_append, List.length_append, List.length_take, List.length_drop, List.length_singleton]
    omega
  have e1 : catO (DL.cutD t.pl none (some (p : Int))) [((x : Int) - 1)] = some (t.pl.take p ++ [(x : Int) - 1]) := by
    rw [cut_to (by omega), catO_ok (by rw [List.length_take]; show _ + 1 ≤ _; omega)]
  have e2 : catO (t.pl.take p ++ [(x : Int) - 1]) (DL.cutD t.pl (some ((p : Int) + 1)) none) = some l := by
    rw [show (p : Int) + 1 = ((p + 1 : Nat) : Int) by omega, cut_from (by omega), catO_ok (by rw [List.length_append, List.length_take, List.length_drop, List.length_singleton]; omega), hl]
  refine ⟨s2, bs k1 (bs rfl (bs (by rw [show (p : Int) + 3 = ((p + 3 : Nat) : Int) by omega]; exact j1) (bs e1 (bs e2 (bs (w_is_plan (by omega)) ?_))))), j3⟩
  cases g : Tr.lf.grow l with
  | some u =>
    obtain ⟨g1, g2⟩ := Tr.grow_pl l _ u g
    have g1 : u.pl = l := g1
    have us : u.sz ≤ 100 := by
      have := u.pl_len
      rw [g1, ll] at this
      omega
    refine iT rfl (bs (a := true) ?_ rfl)
    rw [← g1]
    exact plan_holds us
  | none =>
    have nb : f_is_nested ((tp PyData.int) l) = some false := by
      rw [nested_l (by omega), g]
      rfl
    refine iF rfl (bs (a := false) (bs nb rfl) (bs (same_b false) (iF rfl (bs (rng1O_n (n := 6) (by omega)) (bs (a := []) ?_ rfl)))))
    rw [lcC_fl (p' := fun _ => false) (by rw [List.length_map, List.length_range]; omega) fun a m => ?_]
    · rw [List.filter_eq_nil_iff.mpr fun _ _ => by simp]
    · obtain ⟨k, hk, rfl⟩ := List.mem_map.mp m
      exact bs (ask_bad nb (List.mem_range.mp hk)) (bs d_bases rfl)
theorem fold_list (a : Array Nat) : ∀ (k : Nat) (b : Array Nat), ((List.replicate k a).foldl (· ++ ·) b).toList = b.toList ++ (List.replicate k a.toList).flatten
  | 0, b => by simp
  | k + 1, b => by
    rw [List.replicate_succ, List.foldl_cons, fold_list a k (b ++ a), Array.toList_append, List.replicate_succ, List.flatten_cons, List.append_assoc]
theorem sg_rep (z : Str) (n : Nat) : DL.signs (repS z (n : Int)) = (List.replicate n (DL.signs z)).flatten := by
  unfold repS
  by_cases c : n = 0
  · subst c
    rw [if_pos (by decide)]
    rfl
  · rw [if_neg (by omega)]
    by_cases d : ((n : Int) == 1 || z.length == 0) = true
    · rw [if_pos d]
      rw [Bool.or_eq_true, beq_iff_eq, beq_iff_eq] at d
      rcases d with d | d
      · have : n = 1 := by omega
        subst this
        simp
      · have e : DL.signs z = [] := List.length_eq_zero_iff.mp (by rw [sg_len]; exact d)
        rw [e]
        simp
    · rw [if_neg d]
      unfold DL.signs
      show ((List.replicate (n : Int).toNat z.cps).foldl (· ++ ·) #[]).toList.map _ = _
      rw [fold_list, show ((n : Int)).toNat = n by omega]
      simp [List.map_flatten]
theorem mul_ok {z : Str} {n : Nat} (h : n ≤ 1000) (hz : z.length ≤ 1000) : mulSO z (n : Int) = some (repS z (n : Int)) := if_pos ⟨by omega, by omega, hz⟩
theorem cnt_pm : ∀ (k m : Nat) (ws : List Str), cnt (m + 1) ((List.replicate k [sP, sM]).flatten ++ ws) = cnt (m + 1) ws
  | 0, m, ws => rfl
  | k + 1, m, ws => by
    rw [List.replicate_succ, List.flatten_cons, List.append_assoc]
    show (if sP = sP then (if sM = sP then _ else if sM = sM then cnt (m + 1) ((List.replicate k [sP, sM]).flatten ++ ws) else none) else _) = _
    rw [if_pos rfl, if_neg ne_pm, if_pos rfl]
    exact cnt_pm k m ws
theorem si_pm : DL.signs "+-" = [sP, sM] := by kernel_rfl
theorem far_told {s : Hand} (h : HdOk s) : ∃ s', f_w_far_told s = some (true, s') ∧ HdOk s' := by
  unfold f_w_far_told
  obtain ⟨t, s1, h1, h2, ok1⟩ := w_plan h (n := 45) (by omega)
  obtain ⟨k, s2, k1, k2, ok2⟩ := n_take (k := 30) ok1 (by omega) (by decide)
  have m1 : mulSO ("+-" : Str) (k : Int) = some _ := mul_ok (by omega) (by decide)
  have m2 : mulSO ("+" : Str) (30 : Int) = some _ := mul_ok (n := 30) (by omega) (by decide)
  have m3 : mulSO ("-" : Str) (31 : Int) = some _ := mul_ok (n := 31) (by omega) (by decide)
  have m4 : mulSO ("-" : Str) (30 : Int) = some _ := mul_ok (n := 30) (by omega) (by decide)
  have g1 : DL.signs (repS "+-" (k : Int)) = (List.replicate k [sP, sM]).flatten := by rw [sg_rep, si_pm]
  have g2 : DL.signs (repS "+" ((30 : Nat) : Int)) = (List.replicate 30 [sP]).flatten := by rw [sg_rep, si_P]
  have g3 : DL.signs (repS "-" ((31 : Nat) : Int)) = (List.replicate 31 [sM]).flatten := by rw [sg_rep, si_M]
  have g4 : DL.signs (repS "-" ((30 : Nat) : Int)) = (List.replicate 30 [sM]).flatten := by rw [sg_rep, si_M]
  have n1 : (repS "+-" (k : Int)).length ≤ 60 := by
    rw [← sg_len, g1]
    simp
    omega
  have n2 : (repS "+" ((30 : Nat) : Int)).length = 30 := by rw [← sg_len, g2]; rfl
  have n3 : (repS "-" ((31 : Nat) : Int)).length = 31 := by rw [← sg_len, g3]; rfl
  have n4 : (repS "-" ((30 : Nat) : Int)).length = 30 := by rw [← sg_len, g4]; rfl
  obtain ⟨L, hL⟩ : ∃ L, L = repS "+-" (k : Int) ++ repS "+" ((30 : Nat) : Int) := ⟨_, rfl⟩
  have nL : L.length ≤ 90 := by
    rw [hL, app_len, n2]
    omega
  have gL : DL.signs L = (List.replicate k [sP, sM]).flatten ++ (List.replicate 30 [sP]).flatten := by rw [hL, sg_app, g1, g2]
  have a1 : adSO (repS "+-" (k : Int)) (repS "+" ((30 : Nat) : Int)) = some L := by
    rw [hL]
    exact ad_ok (by rw [n2]; omega)
  have a3 : adSO L (repS "-" ((31 : Nat) : Int)) = some _ := ad_ok (by rw [n3]; omega)
  have a4 : adSO L (repS "-" ((30 : Nat) : Int)) = some _ := ad_ok (by rw [n4]; omega)
  have mem : ∀ (a b : List Str) (n m : Nat), (∀ w ∈ a, w = sP ∨ w = sM ∨ w = sS) → (∀ w ∈ b, w = sP ∨ w = sM ∨ w = sS) → ∀ w ∈ (List.replicate n a).flatten ++ (List.replicate m b).flatten, w = sP ∨ w = sM ∨ w = sS := fun a b n m ha hb w hw => by
    rcases List.mem_append.mp hw with hw | hw
    · obtain ⟨x, hx, hy⟩ := List.mem_flatten.mp hw
      rw [List.eq_of_mem_replicate hx] at hy
      exact ha w hy
    · obtain ⟨x, hx, hy⟩ := List.mem_flatten.mp hw
      rw [List.eq_of_mem_replicate hx] at hy
      exact hb w hy
  have pm : ∀ w ∈ [sP, sM], w = sP ∨ w = sM ∨ w = sS := fun w m => by
    rcases List.mem_cons.mp m with c | m
    · exact .inl c
    · exact .inr (.inl (List.mem_singleton.mp m))
  have pp : ∀ w ∈ [sP], w = sP ∨ w = sM ∨ w = sS := fun w m => .inl (List.mem_singleton.mp m)
  have mm : ∀ w ∈ [sM], w = sP ∨ w = sM ∨ w = sS := fun w m => .inr (.inl (List.mem_singleton.mp m))
  have sL : Sg L := fun w m => mem _ _ _ _ pm pp w (by rw [← gL]; exact m)
  have s3 : Sg (repS "-" ((31 : Nat) : Int)) := fun w m => mem [sM] [sM] 31 0 mm mm w (by rw [g3] at m; exact List.mem_append_left _ m)
  have s4 : Sg (repS "-" ((30 : Nat) : Int)) := fun w m => mem [sM] [sM] 30 0 mm mm w (by rw [g4] at m; exact List.mem_append_left _ m)
  have t3 : f_is_track (PyData.str (L ++ repS "-" ((31 : Nat) : Int))) = some true := by
    rw [is_tr (sL.app s3), sg_app, gL, g3, List.append_assoc, cnt_pm k 0]
    kernel_rfl
  have t4 : f_is_track (PyData.str (L ++ repS "-" ((30 : Nat) : Int))) = some false := by
    rw [is_tr (sL.app s4), sg_app, gL, g4, List.append_assoc, cnt_pm k 0]
    kernel_rfl
  have n46 : f_is_line_plan ((tp PyData.int) (t.pl ++ [(46 : Int)])) = some false := bs (bad_int (by omega) fun h => by
    obtain ⟨i, hi⟩ := List.mem_iff_getElem?.mp h
    have := t.ch_lt i _ hi
    omega) rfl
  exact ⟨s2, bs h1 (bs rfl (bs k1 (bs m1 (bs m2 (bs a1 (bs (line_t (by omega)) (bs (same_b true) (bs (a := false) (orFF rfl (bs (catO_ok (by rw [t.pl_len]; show t.sz + 1 ≤ _; omega)) (bs n46 (bs (same_b false) rfl)))) (iF rfl (bs m3 (bs a3 (bs t3 (bs (same_b true) (iF rfl (bs m4 (bs a4 (bs t4 (bs (same_b false) rfl)))))))))))))))))), ok2⟩
theorem prefix_of {t : Tr} (z : Nat) (hz : z ≤ t.sz) : ∃ u : Tr, u.sz = z ∧ u.pl = t.pl.take z := by
  by_cases c : z = t.sz
  · exact ⟨t, c.symm, by rw [List.take_of_length_le (by rw [t.pl_len]; omega)]⟩
  · obtain ⟨u, x, h1, h2, _⟩ := Tr.pre t.sz t rfl z (by omega)
    exact ⟨u, h1, h2⟩
theorem sg_no : Sg "" := fun w m => by
  have : DL.signs "" = [] := by kernel_rfl
  rw [this] at m
  cases m
theorem law2 {s : Hand} (h : HdOk s) {n w : Nat} (hn : n ≤ 60) : f_law_J2 (w : Int) s (n : Int) = some true := by
  unfold f_law_J2
  obtain ⟨t, s1, h1, h2, ok1⟩ := w_plan h (n := n) (by omega)
  obtain ⟨m, s2, h3, h4, ok2⟩ := n_take (k := 7) ok1 (by omega) (by decide)
  obtain ⟨u, s3, h5, h6, ok3⟩ := w_plan ok2 (n := m) (by omega)
  have tl := t.pl_len
  -- the rest
  obtain ⟨r, hr, hr2⟩ : ∃ r : Tr, r.sz = min 13 n ∧ r.pl = DL.cutD t.pl none (some (13 : Int)) := by
    obtain ⟨r, e1, e2⟩ := prefix_of (t := t) (min 13 n) (by omega)
    refine ⟨r, e1, ?_⟩
    rw [e2]
    by_cases c : 13 ≤ n
    · rw [show (13 : Int) = ((13 : Nat) : Int) from rfl, cut_to (by omega), Nat.min_eq_left c]
    · have cd : DL.cutD t.pl none (some (13 : Int)) = t.pl := by
        unfold DL.cutD
        have e3 : HT.sIx t.pl.length 0 none = 0 := rfl
        have e4 : HT.sIx t.pl.length t.pl.length (some (13 : Int)) = t.pl.length := by
          show (if (13 : Int) < 0 then ((13 : Int) + (t.pl.length : Int)).toNat else min (13 : Int).toNat t.pl.length) = _
          rw [if_neg (by omega)]
          omega
        rw [e3, e4]
        simp
      rw [cd, List.take_of_length_le (by omega)]
  have rl := r.rg_len
  have ul := u.rg_len
  have dueE : u.rg' ++ [(1 : Int)] ++ (r.rg'.drop 1).map (fun x => x + (1 : Int)) = (Tr.nd u r).rg' := by
    have e := r.rg_head
    show _ = u.rg' ++ r.rg'.map (· + 1)
    cases hc : r.rg' with
    | nil => rw [hc] at rl; cases rl
    | cons x l =>
      rw [hc] at e
      cases e
      rw [List.append_assoc]
      rfl
  have nz : (Tr.nd u r).sz = u.sz + r.sz + 1 := rfl
  obtain ⟨j, s4, h7, h8, ok4⟩ := n_take (k := 10) ok3 (by omega) (by decide)
  obtain ⟨g, s5, h9, h10, ok5⟩ := w_sign ok4 (n := j) (by omega)
  have gl := trS_len g
  obtain ⟨⟨y, s6⟩, h11, h12, h13, ok6⟩ := w_spoilt ok5 (sg_trk g) (by omega) (by omega)
  have h11 : f_w_spoilt s5 (trS g) = some (y, s6) := h11
  have sh1 := sign_holds (sg_trk g) (by omega)
  have sh2 := sign_holds h12 (by dsimp only at h13 ⊢; omega)
  have sh3 := sign_holds sg_no (by decide)
  have sh4 : f_w_sign_holds (trS g ++ sS) = some true := sign_holds ((sg_trk g).app sg_S) (by rw [app_len]; show _ + 1 ≤ _; omega)
  have bt : ∃ s7, (if decide ((0 : Int) < (n : Int)) = true then (f_w_bent_holds s6 t.pl).bind fun t48 => some ((!t48.1), t48.2) else some (false, s6)) = some (false, s7) ∧ HdOk s7 := by
    by_cases c : n = 0
    · exact ⟨s6, iF (decide_eq_false (by omega)) rfl, ok6⟩
    · obtain ⟨s7, b1, b2⟩ := bent ok6 (t := t) (by omega) (by omega)
      exact ⟨s7, iT (decide_eq_true (by omega)) (bs b1 rfl), b2⟩
  obtain ⟨s7, b1, ok7⟩ := bt
  obtain ⟨k, s8, h14, h15, ok8⟩ := n_take (k := 11) ok7 (by omega) (by decide)
  have ft : ∃ s9, (if decide ((w : Int) = (3 : Int)) = true then (f_w_far_told s8 ).bind fun t54 => some ((!t54.1), t54.2) else some (false, s8)) = some (false, s9) := by
    by_cases c : w = 3
    · obtain ⟨s9, f1, f2⟩ := far_told ok8
      exact ⟨s9, iT (decide_eq_true (by omega)) (bs f1 rfl)⟩
    · exact ⟨s8, iF (decide_eq_false (by omega)) rfl⟩
  obtain ⟨s9, f1⟩ := ft
  have mm : f_mirrored t.mir.pl = some t.pl := by
    have := mirr_t (t := t.mir) (by rw [t.mir_sz]; omega)
    rwa [t.mir_mir] at this
  have tg : f_is_track (PyData.str (trS g)) = some true := by
    rw [is_tr (sg_trk g), trS_cnt, decide_eq_true rfl]
  refine bs h1 (bs rfl (bs h3 (bs h5 (bs rfl (bs (plan_holds (by omega)) (bs (a := false) (orFF rfl (bs (plan_holds (by omega)) rfl)) (iF rfl (bs (a := r.pl) (by rw [hr2]) (bs (w_reads (by omega)) (bs (catO_ok (by rw [ul]; show u.sz + 1 + 1 ≤ _; omega)) (bs (w_reads (by omega)) (bs (a := (r.rg'.drop 1).map fun x => x + (1 : Int)) ?_ (bs (catO_ok ?_) (bs (a := (Tr.nd u r).pl) ?_ (bs (v_joined (by omega) (by omega)) (bs (same_t _) (iF rfl (bs (v_joined (by omega) (by omega)) (bs (same_t _) (iF rfl (bs h7 (bs h9 (bs rfl (bs sh1 (bs (a := (false, s6)) (iF rfl (bs h11 (bs sh2 (bs (a := false) (orFF rfl (bs sh3 rfl)) rfl)))) (iF rfl (bs (ad_ok (by show (trS g).length + 1 ≤ _; omega)) (bs sh4 (iF rfl (bs b1 (iF rfl (bs h14 (bs (refused (by omega) (by omega)) (iF rfl (bs f1 (iF rfl
    (bs (track_t (by omega)) (bs (track_t (by omega)) (bs (same_s (sg_trk t)) (iF rfl (bs (v_turns (by omega)) (bs (v_turns (by omega)) (bs (same_pairs _) (iF rfl (bs (line_t (by omega)) (bs (same_b true) (bs (a := false) (orFF rfl (bs tg (bs (same_b true) rfl))) (iF rfl (bs (mirr_t (by omega)) (bs mm (bs (same_t _) (iF rfl (bs (track_t (by omega)) (bs (v_from (by omega)) (bs (same_t _) rfl)))))))))))))))))))))))))))))))))))))))))))))))))))))))
  · rw [cut_1 (by omega)]
    exact lcC_map (by rw [List.length_drop]; omega) fun _ _ => rfl
  · rw [List.length_append, List.length_map, List.length_drop, List.length_singleton]
    omega
  · rw [dueE]
    exact w_by (by omega)
theorem law1 {s : Hand} (h : HdOk s) {n w : Nat} (hn : n ≤ 20) : f_law_J1 s (w : Int) (n : Int) = some true := by
  unfold f_law_J1
  by_cases c : w = 2
  · obtain ⟨k, s1, h1, h2, ok1⟩ := n_take (k := 9) h (by omega) (by decide)
    refine iT (decide_eq_true (by omega)) (bs h1 (bs (a := ((10 + k : Nat) : Int)) (by rw [Int.natCast_add]; rfl) (law2 ok1 (by omega))))
  · exact iF (decide_eq_false (by omega)) (law2 h (by omega))
theorem law_t (ns : List Int) : f_law ns = some true := by
  unfold f_law
  obtain ⟨s, h1, ok⟩ := v_hand ns
  obtain ⟨n, s1, h2, hn, ok1⟩ := n_take (k := 10) ok (by omega) (by decide)
  obtain ⟨w, s2, h3, hw, ok2⟩ := n_take (k := 8) ok1 (by omega) (by decide)
  refine bs h1 (bs h2 (bs rfl (bs h3 (bs rfl ?_))))
  by_cases c : w = 1
  · exact iT (decide_eq_true (by omega)) (bs rfl (law1 ok2 (n := 20) (by omega)))
  · exact iF (decide_eq_false (by omega)) (law1 ok2 (by omega))
theorem law_true (ns : List Int) (_ : ns.length ≤ 63) : F_law [.list (ns.map PyData.int)] = some (.im (.bool true)) := k_law (law_t ns)
end K24
namespace K24
open PySem PySem.Spec PyProof.Rows L2 DL
def level : Nat := 28
def spLaw (K : PySem.W.Frag) : Sp := fun vs H Q _ => ∃ (a : Addr) (ns : List Int), vs = [.ref a] ∧ SqL K H a (ns.map V.int) ∧ ns.length ≤ 63 ∧ ∀ H', Q (.bl true) H'
theorem law_imp {P : Program} {w : World} {K : PySem.W.Frag} {mg : Str → Option Value} {base : Heap} {f : Addr} {fd : FuncData} (h : FnOk P w K mg base CX0 28 f fd ["_law_script"] (spD K 1 F_law)) : FnOk P w K mg base CX0 level f fd ["_law_script"] (spLaw K) := by
  refine h.imp fun vs H Q E z => ?_
  obtain ⟨a, ns, rfl, hs, hl, q⟩ := z
  refine ⟨H, [.list (ns.map PyData.int)], _, Same.refl H, .cons (.lst hs (dpAll_ints ns)) .nil, rfl, law_true ns hl, fun v G' H' _ _ _ _ d => ?_⟩
  cases d
  exact q H'
theorem facts {P : Program} {w : World} {K : PySem.W.Frag} {h : Heap} {mg : Str → Option Value} {f : Addr} (X : K.In h) (G : h.Ns mainGlobals mg) (hfa : mg ("law" : Str) = some (.ref f)) (cx : SaysX fa fn ex K) :
    ∃ fd : FuncData, (∀ (s : Shared) (v : Value), BindsTo s fd ⟨[v], []⟩ [("_law_script", v)]) ∧ ∀ base : Heap, K.In base → base.Ns mainGlobals mg → FnOk P w K mg base CX0 level f fd ["_law_script"] (spLaw K) := by
  have c := cx.d
  have cxx := (He.ba cx.x).1
  have cxm := (He.ba cx.x).2
  have XI := exB_xi X G cxx
  have B : Bi mg := ⟨He.free_ok X G (c.fact 41 (f := .free "abs") rfl), He.free_ok X G (c.fact 42 (f := .free "bool") rfl), He.free_ok X G (c.fact 43 (f := .free "enumerate") rfl), He.free_ok X G (c.fact 44 (f := .free "int") rfl), He.free_ok X G (c.fact 45 (f := .free "isinstance") rfl), He.free_ok X G (c.fact 46 (f := .free "len") rfl), He.free_ok X G (c.fact 47 (f := .free "list") rfl), He.free_ok X G (c.fact 48 (f := .free "max") rfl), He.free_ok X G (c.fact 49 (f := .free "range") rfl), He.free_ok X G (c.fact 50 (f := .free "str") rfl), He.free_ok X G (c.fact 51 (f := .free "sum") rfl), He.free_ok X G (c.fact 52 (f := .free "tuple") rfl), He.free_ok X G (c.fact 53 (f := .free "zip") rfl)⟩
  obtain ⟨fd_is_integer, F_is_integer_⟩ := c.def_ 0 (d := d_is_integer) rfl
  obtain ⟨fd_last_full, F_last_full_⟩ := c.def_ 4 (d := d_last_full) rfl
  obtain ⟨fd_put_beside, F_put_beside_⟩ := c.def_ 6 (d := d_put_beside) rfl
  obtain ⟨fd_is_track, F_is_track_⟩ := c.def_ 8 (d := d_is_track) rfl
  obtain ⟨fd__law_hand, F__law_hand_⟩ := c.def_ 21 (d := d__law_hand) rfl
  obtain ⟨fd__law_take, F__law_take_⟩ := c.def_ 22 (d := d__law_take) rfl
  obtain ⟨fd__law_is_plan, F__law_is_plan_⟩ := c.def_ 25 (d := d__law_is_plan) rfl
  obtain ⟨fd__law_reads, F__law_reads_⟩ := c.def_ 26 (d := d__law_reads) rfl
  obtain ⟨fd__law_writes, F__law_writes_⟩ := c.def_ 27 (d := d__law_writes) rfl
  obtain ⟨fd__law_by_reads, F__law_by_reads_⟩ := c.def_ 28 (d := d__law_by_reads) rfl
  obtain ⟨fd__law_buds, F__law_buds_⟩ := c.def_ 30 (d := d__law_buds) rfl
  obtain ⟨fd_is_number, F_is_number_⟩ := c.def_ 1 (d := d_is_number) rfl
  obtain ⟨fd_ahead_and_behind, F_ahead_and_behind_⟩ := c.def_ 5 (d := d_ahead_and_behind) rfl
  obtain ⟨fd__built, F__built_⟩ := c.def_ 10 (d := d__built) rfl
  obtain ⟨fd__law_plan, F__law_plan_⟩ := c.def_ 24 (d := d__law_plan) rfl
  obtain ⟨fd__law_sign, F__law_sign_⟩ := c.def_ 29 (d := d__law_sign) rfl
  obtain ⟨fd__law_spoilt, F__law_spoilt_⟩ := c.def_ 31 (d := d__law_spoilt) rfl
  obtain ⟨fd_is_nested, F_is_nested_⟩ := c.def_ 2 (d := d_is_nested) rfl
  obtain ⟨fd__need_track, F__need_track_⟩ := c.def_ 9 (d := d__need_track) rfl
  obtain ⟨fd_need_plan, F_need_plan_⟩ := c.def_ 3 (d := d_need_plan) rfl
  obtain ⟨fd_is_line_plan, F_is_line_plan_⟩ := c.def_ 7 (d := d_is_line_plan) rfl
  obtain ⟨fd_bases_from, F_bases_from_⟩ := c.def_ 12 (d := d_bases_from) rfl
  obtain ⟨fd_turns_of, F_turns_of_⟩ := c.def_ 13 (d := d_turns_of) rfl
  obtain ⟨fd_track_of, F_track_of_⟩ := c.def_ 11 (d := d_track_of) rfl
  obtain ⟨fd__need_changes, F__need_changes_⟩ := c.def_ 15 (d := d__need_changes) rfl
  obtain ⟨fd_joined_plans, F_joined_plans_⟩ := c.def_ 16 (d := d_joined_plans) rfl
  obtain ⟨fd_line_reads, F_line_reads_⟩ := c.def_ 19 (d := d_line_reads) rfl
  obtain ⟨fd_line_writes, F_line_writes_⟩ := c.def_ 20 (d := d_line_writes) rfl
  obtain ⟨fd_mirrored, F_mirrored_⟩ := c.def_ 14 (d := d_mirrored) rfl
  obtain ⟨fd_cut_of, F_cut_of_⟩ := c.def_ 17 (d := d_cut_of) rfl
  obtain ⟨fd_parts_of, F_parts_of_⟩ := c.def_ 18 (d := d_parts_of) rfl
  obtain ⟨fd__law_ask_two, F__law_ask_two_⟩ := c.def_ 33 (d := d__law_ask_two) rfl
  obtain ⟨fd__law_ask, F__law_ask_⟩ := c.def_ 32 (d := d__law_ask) rfl
  obtain ⟨fd__law_same, F__law_same_⟩ := c.def_ 23 (d := d__law_same) rfl
  obtain ⟨fd__law_plan_holds, F__law_plan_holds_⟩ := c.def_ 34 (d := d__law_plan_holds) rfl
  obtain ⟨fd__law_sign_holds, F__law_sign_holds_⟩ := c.def_ 35 (d := d__law_sign_holds) rfl
  obtain ⟨fd__law_refused, F__law_refused_⟩ := c.def_ 36 (d := d__law_refused) rfl
  obtain ⟨fd__law_far_told, F__law_far_told_⟩ := c.def_ 38 (d := d__law_far_told) rfl
  obtain ⟨fd__law_bent_holds, F__law_bent_holds_⟩ := c.def_ 37 (d := d__law_bent_holds) rfl
  obtain ⟨fd_law, F_law_⟩ := c.def_ 39 (d := d_law) rfl
  obtain ⟨fd_i_NotUsable, F_i_NotUsable⟩ := c.def_ 40 (d := d_i_NotUsable) rfl
  have e := hfa.symm.trans (He.glo_ok X G (c.fact 39 (f := .glo "law") rfl))
  cases e
  have b := FunD.bindsA (ps := ["_law_script"]) F_law_ fun _ _ _ _ _ _ us hl => match us, hl with | [_], _ => rfl
  refine ⟨fd_law, fun s v => b s [v] rfl, fun base _ _ => ?_⟩
  have XT_NotUsable : ExT P w K mg base "NotUsable" ["word", "at"] := exB_ini X G cxx (x := "NotUsable") (by decide +kernel) (fun C hC xc hf => init2 F_i_NotUsable sc_i_NotUsable rfl xc.ox (hf "word" (by decide +kernel)) (hf "at" (by decide +kernel)) fun cdv A outer s H E => (pss_cons (ps_ost (pe_var (i := 0) rfl (Or.inl rfl) (by decide) (by decide)) (pe_var (i := 1) rfl (Or.inl rfl) (by decide) (by decide))) (pss_cons (ps_ost (pe_var (i := 0) rfl (Or.inl rfl) (by decide) (by decide)) (pe_var (i := 2) rfl (Or.inl rfl) (by decide) (by decide))) pss_nil))) (F_i_NotUsable.bindsN fun _ _ _ _ _ _ us hl => match us, hl with | [_, _, _], _ => rfl)
  have k_is_integer := ok_is_integer (P := P) (w := w) (mg := mg) (base := base) B F_is_integer_
  have c_is_integer := kfN F_is_integer_ k_is_integer (He.glo_ok X G (c.fact 0 (f := .glo "is_integer") rfl)) fun _ _ _ _ _ _ us hl => match us, hl with | [_], _ => rfl
  have k_last_full := ok_last_full (P := P) (w := w) (mg := mg) (base := base) B F_last_full_
  have c_last_full := kfN F_last_full_ k_last_full (He.glo_ok X G (c.fact 4 (f := .glo "last_full") rfl)) fun _ _ _ _ _ _ us hl => match us, hl with | [_], _ => rfl
  have k_put_beside := ok_put_beside (P := P) (w := w) (mg := mg) (base := base) B F_put_beside_
  have c_put_beside := kfN F_put_beside_ k_put_beside (He.glo_ok X G (c.fact 6 (f := .glo "put_beside") rfl)) fun _ _ _ _ _ _ us hl => match us, hl with | [_, _], _ => rfl
  have k_is_track := ok_is_track (P := P) (w := w) (mg := mg) (base := base) B F_is_track_
  have c_is_track := kfN F_is_track_ k_is_track (He.glo_ok X G (c.fact 8 (f := .glo "is_track") rfl)) fun _ _ _ _ _ _ us hl => match us, hl with | [_], _ => rfl
  have c_is_track_kw0_0 : KfK P w K mg base 1 "is_track" (spD K 1 F_is_track) 0 ["thing"] [0] := ⟨_, fd_is_track, _, k_is_track, (He.glo_ok X G (c.fact 8 (f := .glo "is_track") rfl)), F_is_track_.kp, kbn_of F_is_track_ 0 ["thing"] [0] fun _ _ _ _ _ _ us ws h1 h2 => match us, ws, h1, h2 with | [], [_], _, _ => rfl⟩
  have k__law_hand := ok__law_hand (P := P) (w := w) (mg := mg) (base := base) B F__law_hand_
  have c__law_hand := kfN F__law_hand_ k__law_hand (He.glo_ok X G (c.fact 21 (f := .glo "_law_hand") rfl)) fun _ _ _ _ _ _ us hl => match us, hl with | [_], _ => rfl
  have k__law_take := ok__law_take (P := P) (w := w) (mg := mg) (base := base) B F__law_take_
  have c__law_take := kfN F__law_take_ k__law_take (He.glo_ok X G (c.fact 22 (f := .glo "_law_take") rfl)) fun _ _ _ _ _ _ us hl => match us, hl with | [_, _], _ => rfl
  have k__law_is_plan := ok__law_is_plan (P := P) (w := w) (mg := mg) (base := base) B F__law_is_plan_
  have c__law_is_plan := kfN F__law_is_plan_ k__law_is_plan (He.glo_ok X G (c.fact 25 (f := .glo "_law_is_plan") rfl)) fun _ _ _ _ _ _ us hl => match us, hl with | [_], _ => rfl
  have k__law_reads := ok__law_reads (P := P) (w := w) (mg := mg) (base := base) F__law_reads_
  have c__law_reads := kfN F__law_reads_ k__law_reads (He.glo_ok X G (c.fact 26 (f := .glo "_law_reads") rfl)) fun _ _ _ _ _ _ us hl => match us, hl with | [_], _ => rfl
  have k__law_writes := ok__law_writes (P := P) (w := w) (mg := mg) (base := base) B F__law_writes_
  have c__law_writes := kfN F__law_writes_ k__law_writes (He.glo_ok X G (c.fact 27 (f := .glo "_law_writes") rfl)) fun _ _ _ _ _ _ us hl => match us, hl with | [_], _ => rfl
  have k__law_by_reads := ok__law_by_reads (P := P) (w := w) (mg := mg) (base := base) B F__law_by_reads_
  have c__law_by_reads := kfN F__law_by_reads_ k__law_by_reads (He.glo_ok X G (c.fact 28 (f := .glo "_law_by_reads") rfl)) fun _ _ _ _ _ _ us hl => match us, hl with | [_], _ => rfl
  have k__law_buds := ok__law_buds (P := P) (w := w) (mg := mg) (base := base) B F__law_buds_
  have c__law_buds := kfN F__law_buds_ k__law_buds (He.glo_ok X G (c.fact 30 (f := .glo "_law_buds") rfl)) fun _ _ _ _ _ _ us hl => match us, hl with | [_], _ => rfl
  have k_is_number := ok_is_number (P := P) (w := w) (mg := mg) (base := base) F_is_number_ c_is_integer
  have c_is_number := kfN F_is_number_ k_is_number (He.glo_ok X G (c.fact 1 (f := .glo "is_number") rfl)) fun _ _ _ _ _ _ us hl => match us, hl with | [_], _ => rfl
  have k_ahead_and_behind := ok_ahead_and_behind (P := P) (w := w) (mg := mg) (base := base) B F_ahead_and_behind_ c_last_full
  have c_ahead_and_behind := kfN F_ahead_and_behind_ k_ahead_and_behind (He.glo_ok X G (c.fact 5 (f := .glo "ahead_and_behind") rfl)) fun _ _ _ _ _ _ us hl => match us, hl with | [_], _ => rfl
  have k__built := ok__built (P := P) (w := w) (mg := mg) (base := base) F__built_ c_put_beside
  have c__built := kfN F__built_ k__built (He.glo_ok X G (c.fact 10 (f := .glo "_built") rfl)) fun _ _ _ _ _ _ us hl => match us, hl with | [_, _], _ => rfl
  have k__law_plan := ok__law_plan (P := P) (w := w) (mg := mg) (base := base) B F__law_plan_ c__law_take
  have c__law_plan := kfN F__law_plan_ k__law_plan (He.glo_ok X G (c.fact 24 (f := .glo "_law_plan") rfl)) fun _ _ _ _ _ _ us hl => match us, hl with | [_, _], _ => rfl
  have k__law_sign := ok__law_sign (P := P) (w := w) (mg := mg) (base := base) B F__law_sign_ c__law_take
  have c__law_sign := kfN F__law_sign_ k__law_sign (He.glo_ok X G (c.fact 29 (f := .glo "_law_sign") rfl)) fun _ _ _ _ _ _ us hl => match us, hl with | [_, _], _ => rfl
  have k__law_spoilt := ok__law_spoilt (P := P) (w := w) (mg := mg) (base := base) B F__law_spoilt_ c__law_take
  have c__law_spoilt := kfN F__law_spoilt_ k__law_spoilt (He.glo_ok X G (c.fact 31 (f := .glo "_law_spoilt") rfl)) fun _ _ _ _ _ _ us hl => match us, hl with | [_, _], _ => rfl
  have k_is_nested := ok_is_nested (P := P) (w := w) (mg := mg) (base := base) B F_is_nested_ c_is_number
  have c_is_nested := kfN F_is_nested_ k_is_nested (He.glo_ok X G (c.fact 2 (f := .glo "is_nested") rfl)) fun _ _ _ _ _ _ us hl => match us, hl with | [_], _ => rfl
  have ky__need_track := okx__need_track (P := P) (w := w) (mg := mg) (base := base) XI XT_NotUsable F__need_track_ c_is_track
  have k__need_track := ok__need_track (P := P) (w := w) (mg := mg) (base := base) F__need_track_ c_is_track
  have kx__need_track := fn_orX k__need_track ky__need_track
  have c_X_need_track := kfXN F__need_track_ kx__need_track (He.glo_ok X G (c.fact 9 (f := .glo "_need_track") rfl)) fun _ _ _ _ _ _ us hl => match us, hl with | [_], _ => rfl
  have c__need_track := kfN F__need_track_ k__need_track (He.glo_ok X G (c.fact 9 (f := .glo "_need_track") rfl)) fun _ _ _ _ _ _ us hl => match us, hl with | [_], _ => rfl
  have ky_need_plan := okx_need_plan (P := P) (w := w) (mg := mg) (base := base) XI XT_NotUsable F_need_plan_ c_is_nested
  have k_need_plan := ok_need_plan (P := P) (w := w) (mg := mg) (base := base) F_need_plan_ c_is_nested
  have kx_need_plan := fn_orX k_need_plan ky_need_plan
  have c_Xneed_plan := kfXN F_need_plan_ kx_need_plan (He.glo_ok X G (c.fact 3 (f := .glo "need_plan") rfl)) fun _ _ _ _ _ _ us hl => match us, hl with | [_, _], _ => rfl
  have c_need_plan := kfN F_need_plan_ k_need_plan (He.glo_ok X G (c.fact 3 (f := .glo "need_plan") rfl)) fun _ _ _ _ _ _ us hl => match us, hl with | [_, _], _ => rfl
  have k_is_line_plan := ok_is_line_plan (P := P) (w := w) (mg := mg) (base := base) F_is_line_plan_ c_is_nested
  have c_is_line_plan := kfN F_is_line_plan_ k_is_line_plan (He.glo_ok X G (c.fact 7 (f := .glo "is_line_plan") rfl)) fun _ _ _ _ _ _ us hl => match us, hl with | [_], _ => rfl
  have c_is_line_plan_kw0_0 : KfK P w K mg base 4 "is_line_plan" (spD K 1 F_is_line_plan) 0 ["thing"] [0] := ⟨_, fd_is_line_plan, _, k_is_line_plan, (He.glo_ok X G (c.fact 7 (f := .glo "is_line_plan") rfl)), F_is_line_plan_.kp, kbn_of F_is_line_plan_ 0 ["thing"] [0] fun _ _ _ _ _ _ us ws h1 h2 => match us, ws, h1, h2 with | [], [_], _, _ => rfl⟩
  have ky_bases_from := okx_bases_from (P := P) (w := w) (mg := mg) (base := base) F_bases_from_ c_X_need_track c__built
  have k_bases_from := ok_bases_from (P := P) (w := w) (mg := mg) (base := base) F_bases_from_ c__built c__need_track
  have kx_bases_from := fn_orX k_bases_from ky_bases_from
  have c_Xbases_from := kfXN F_bases_from_ kx_bases_from (He.glo_ok X G (c.fact 12 (f := .glo "bases_from") rfl)) fun _ _ _ _ _ _ us hl => match us, hl with | [_], _ => rfl
  have c_bases_from := kfN F_bases_from_ k_bases_from (He.glo_ok X G (c.fact 12 (f := .glo "bases_from") rfl)) fun _ _ _ _ _ _ us hl => match us, hl with | [_], _ => rfl
  have c_bases_from_kw0_0 : KfK P w K mg base 4 "bases_from" (spD K 1 F_bases_from) 0 ["track"] [0] := ⟨_, fd_bases_from, _, k_bases_from, (He.glo_ok X G (c.fact 12 (f := .glo "bases_from") rfl)), F_bases_from_.kp, kbn_of F_bases_from_ 0 ["track"] [0] fun _ _ _ _ _ _ us ws h1 h2 => match us, ws, h1, h2 with | [], [_], _, _ => rfl⟩
  have ky_turns_of := okx_turns_of (P := P) (w := w) (mg := mg) (base := base) B F_turns_of_ c_X_need_track
  have k_turns_of := ok_turns_of (P := P) (w := w) (mg := mg) (base := base) B F_turns_of_ c__need_track
  have kx_turns_of := fn_orX k_turns_of ky_turns_of
  have c_Xturns_of := kfXN F_turns_of_ kx_turns_of (He.glo_ok X G (c.fact 13 (f := .glo "turns_of") rfl)) fun _ _ _ _ _ _ us hl => match us, hl with | [_], _ => rfl
  have c_turns_of := kfN F_turns_of_ k_turns_of (He.glo_ok X G (c.fact 13 (f := .glo "turns_of") rfl)) fun _ _ _ _ _ _ us hl => match us, hl with | [_], _ => rfl
  have c_turns_of_kw0_0 : KfK P w K mg base 4 "turns_of" (spD K 1 F_turns_of) 0 ["track"] [0] := ⟨_, fd_turns_of, _, k_turns_of, (He.glo_ok X G (c.fact 13 (f := .glo "turns_of") rfl)), F_turns_of_.kp, kbn_of F_turns_of_ 0 ["track"] [0] fun _ _ _ _ _ _ us ws h1 h2 => match us, ws, h1, h2 with | [], [_], _, _ => rfl⟩
  have ky_track_of := okx_track_of (P := P) (w := w) (mg := mg) (base := base) B F_track_of_ c_Xneed_plan c_ahead_and_behind
  have k_track_of := ok_track_of (P := P) (w := w) (mg := mg) (base := base) B F_track_of_ c_ahead_and_behind c_need_plan
  have kx_track_of := fn_orX k_track_of ky_track_of
  have c_Xtrack_of := kfXN F_track_of_ kx_track_of (He.glo_ok X G (c.fact 11 (f := .glo "track_of") rfl)) fun _ _ _ _ _ _ us hl => match us, hl with | [_], _ => rfl
  have c_track_of := kfN F_track_of_ k_track_of (He.glo_ok X G (c.fact 11 (f := .glo "track_of") rfl)) fun _ _ _ _ _ _ us hl => match us, hl with | [_], _ => rfl
  have c_track_of_kw0_0 : KfK P w K mg base 5 "track_of" (spD K 1 F_track_of) 0 ["bases"] [0] := ⟨_, fd_track_of, _, k_track_of, (He.glo_ok X G (c.fact 11 (f := .glo "track_of") rfl)), F_track_of_.kp, kbn_of F_track_of_ 0 ["bases"] [0] fun _ _ _ _ _ _ us ws h1 h2 => match us, ws, h1, h2 with | [], [_], _, _ => rfl⟩
  have ky__need_changes := okx__need_changes (P := P) (w := w) (mg := mg) (base := base) B XI XT_NotUsable F__need_changes_ c_Xneed_plan
  have k__need_changes := ok__need_changes (P := P) (w := w) (mg := mg) (base := base) B F__need_changes_ c_need_plan
  have kx__need_changes := fn_orX k__need_changes ky__need_changes
  have c_X_need_changes := kfXN F__need_changes_ kx__need_changes (He.glo_ok X G (c.fact 15 (f := .glo "_need_changes") rfl)) fun _ _ _ _ _ _ us hl => match us, hl with | [_], _ => rfl
  have c__need_changes := kfN F__need_changes_ k__need_changes (He.glo_ok X G (c.fact 15 (f := .glo "_need_changes") rfl)) fun _ _ _ _ _ _ us hl => match us, hl with | [_], _ => rfl
  have ky_joined_plans := okx_joined_plans (P := P) (w := w) (mg := mg) (base := base) F_joined_plans_ c_Xneed_plan c_put_beside
  have k_joined_plans := ok_joined_plans (P := P) (w := w) (mg := mg) (base := base) F_joined_plans_ c_need_plan c_put_beside
  have kx_joined_plans := fn_orX k_joined_plans ky_joined_plans
  have c_Xjoined_plans := kfXN F_joined_plans_ kx_joined_plans (He.glo_ok X G (c.fact 16 (f := .glo "joined_plans") rfl)) fun _ _ _ _ _ _ us hl => match us, hl with | [_, _], _ => rfl
  have c_joined_plans := kfN F_joined_plans_ k_joined_plans (He.glo_ok X G (c.fact 16 (f := .glo "joined_plans") rfl)) fun _ _ _ _ _ _ us hl => match us, hl with | [_, _], _ => rfl
  have c_joined_plans_kw0_1_0 : KfK P w K mg base 5 "joined_plans" (spD K 2 F_joined_plans) 0 ["other", "one"] [1, 0] := ⟨_, fd_joined_plans, _, k_joined_plans, (He.glo_ok X G (c.fact 16 (f := .glo "joined_plans") rfl)), F_joined_plans_.kp, kbn_of F_joined_plans_ 0 ["other", "one"] [1, 0] fun _ _ _ _ _ _ us ws h1 h2 => match us, ws, h1, h2 with | [], [_, _], _, _ => rfl⟩
  have ky_line_reads := okx_line_reads (P := P) (w := w) (mg := mg) (base := base) B F_line_reads_ c_Xneed_plan
  have k_line_reads := ok_line_reads (P := P) (w := w) (mg := mg) (base := base) B F_line_reads_ c_need_plan
  have kx_line_reads := fn_orX k_line_reads ky_line_reads
  have c_Xline_reads := kfXN F_line_reads_ kx_line_reads (He.glo_ok X G (c.fact 19 (f := .glo "line_reads") rfl)) fun _ _ _ _ _ _ us hl => match us, hl with | [_], _ => rfl
  have c_line_reads := kfN F_line_reads_ k_line_reads (He.glo_ok X G (c.fact 19 (f := .glo "line_reads") rfl)) fun _ _ _ _ _ _ us hl => match us, hl with | [_], _ => rfl
  have c_line_reads_kw0_0 : KfK P w K mg base 5 "line_reads" (spD K 1 F_line_reads) 0 ["bases"] [0] := ⟨_, fd_line_reads, _, k_line_reads, (He.glo_ok X G (c.fact 19 (f := .glo "line_reads") rfl)), F_line_reads_.kp, kbn_of F_line_reads_ 0 ["bases"] [0] fun _ _ _ _ _ _ us ws h1 h2 => match us, ws, h1, h2 with | [], [_], _, _ => rfl⟩
  have ky_line_writes := okx_line_writes (P := P) (w := w) (mg := mg) (base := base) B F_line_writes_ c_Xneed_plan
  have k_line_writes := ok_line_writes (P := P) (w := w) (mg := mg) (base := base) B F_line_writes_ c_need_plan
  have kx_line_writes := fn_orX k_line_writes ky_line_writes
  have c_Xline_writes := kfXN F_line_writes_ kx_line_writes (He.glo_ok X G (c.fact 20 (f := .glo "line_writes") rfl)) fun _ _ _ _ _ _ us hl => match us, hl with | [_], _ => rfl
  have c_line_writes := kfN F_line_writes_ k_line_writes (He.glo_ok X G (c.fact 20 (f := .glo "line_writes") rfl)) fun _ _ _ _ _ _ us hl => match us, hl with | [_], _ => rfl
  have c_line_writes_kw0_0 : KfK P w K mg base 5 "line_writes" (spD K 1 F_line_writes) 0 ["bases"] [0] := ⟨_, fd_line_writes, _, k_line_writes, (He.glo_ok X G (c.fact 20 (f := .glo "line_writes") rfl)), F_line_writes_.kp, kbn_of F_line_writes_ 0 ["bases"] [0] fun _ _ _ _ _ _ us ws h1 h2 => match us, ws, h1, h2 with | [], [_], _, _ => rfl⟩
  have ky_mirrored := okx_mirrored (P := P) (w := w) (mg := mg) (base := base) F_mirrored_ c_Xtrack_of c__built
  have k_mirrored := ok_mirrored (P := P) (w := w) (mg := mg) (base := base) F_mirrored_ c__built c_track_of
  have kx_mirrored := fn_orX k_mirrored ky_mirrored
  have c_Xmirrored := kfXN F_mirrored_ kx_mirrored (He.glo_ok X G (c.fact 14 (f := .glo "mirrored") rfl)) fun _ _ _ _ _ _ us hl => match us, hl with | [_], _ => rfl
  have c_mirrored := kfN F_mirrored_ k_mirrored (He.glo_ok X G (c.fact 14 (f := .glo "mirrored") rfl)) fun _ _ _ _ _ _ us hl => match us, hl with | [_], _ => rfl
  have c_mirrored_kw0_0 : KfK P w K mg base 6 "mirrored" (spD K 1 F_mirrored) 0 ["bases"] [0] := ⟨_, fd_mirrored, _, k_mirrored, (He.glo_ok X G (c.fact 14 (f := .glo "mirrored") rfl)), F_mirrored_.kp, kbn_of F_mirrored_ 0 ["bases"] [0] fun _ _ _ _ _ _ us ws h1 h2 => match us, ws, h1, h2 with | [], [_], _, _ => rfl⟩
  have ky_cut_of := okx_cut_of (P := P) (w := w) (mg := mg) (base := base) F_cut_of_ c_X_need_changes c_last_full
  have k_cut_of := ok_cut_of (P := P) (w := w) (mg := mg) (base := base) F_cut_of_ c__need_changes c_last_full
  have kx_cut_of := fn_orX k_cut_of ky_cut_of
  have c_Xcut_of := kfXN F_cut_of_ kx_cut_of (He.glo_ok X G (c.fact 17 (f := .glo "cut_of") rfl)) fun _ _ _ _ _ _ us hl => match us, hl with | [_], _ => rfl
  have c_cut_of := kfN F_cut_of_ k_cut_of (He.glo_ok X G (c.fact 17 (f := .glo "cut_of") rfl)) fun _ _ _ _ _ _ us hl => match us, hl with | [_], _ => rfl
  have c_cut_of_kw0_0 : KfK P w K mg base 6 "cut_of" (spD K 1 F_cut_of) 0 ["bases"] [0] := ⟨_, fd_cut_of, _, k_cut_of, (He.glo_ok X G (c.fact 17 (f := .glo "cut_of") rfl)), F_cut_of_.kp, kbn_of F_cut_of_ 0 ["bases"] [0] fun _ _ _ _ _ _ us ws h1 h2 => match us, ws, h1, h2 with | [], [_], _, _ => rfl⟩
  have ky_parts_of := okx_parts_of (P := P) (w := w) (mg := mg) (base := base) F_parts_of_ c_X_need_changes c_ahead_and_behind
  have k_parts_of := ok_parts_of (P := P) (w := w) (mg := mg) (base := base) F_parts_of_ c__need_changes c_ahead_and_behind
  have kx_parts_of := fn_orX k_parts_of ky_parts_of
  have c_Xparts_of := kfXN F_parts_of_ kx_parts_of (He.glo_ok X G (c.fact 18 (f := .glo "parts_of") rfl)) fun _ _ _ _ _ _ us hl => match us, hl with | [_], _ => rfl
  have c_parts_of := kfN F_parts_of_ k_parts_of (He.glo_ok X G (c.fact 18 (f := .glo "parts_of") rfl)) fun _ _ _ _ _ _ us hl => match us, hl with | [_], _ => rfl
  have c_parts_of_kw0_0 : KfK P w K mg base 6 "parts_of" (spD K 1 F_parts_of) 0 ["bases"] [0] := ⟨_, fd_parts_of, _, k_parts_of, (He.glo_ok X G (c.fact 18 (f := .glo "parts_of") rfl)), F_parts_of_.kp, kbn_of F_parts_of_ 0 ["bases"] [0] fun _ _ _ _ _ _ us ws h1 h2 => match us, ws, h1, h2 with | [], [_], _, _ => rfl⟩
  have k__law_ask_two := ok__law_ask_two (P := P) (w := w) (mg := mg) (base := base) XI F__law_ask_two_ c_Xjoined_plans
  have c__law_ask_two := kfN F__law_ask_two_ k__law_ask_two (He.glo_ok X G (c.fact 33 (f := .glo "_law_ask_two") rfl)) fun _ _ _ _ _ _ us hl => match us, hl with | [_, _], _ => rfl
  have k__law_ask := ok__law_ask (P := P) (w := w) (mg := mg) (base := base) XI F__law_ask_ c_Xbases_from c_Xcut_of c_Xline_reads c_Xline_writes c_Xmirrored c_Xparts_of c_Xtrack_of c_Xturns_of
  have c__law_ask := kfN F__law_ask_ k__law_ask (He.glo_ok X G (c.fact 32 (f := .glo "_law_ask") rfl)) fun _ _ _ _ _ _ us hl => match us, hl with | [_, _], _ => rfl
  have k__law_same : FnOk P w K mg base CX0 25 _ fd__law_same ["_law_told", "_law_due"] (spD K 2 F__law_same) := ok__law_same (P := P) (w := w) (mg := mg) (base := base) B F__law_same_ (fun ok => kfN F__law_same_ ok (He.glo_ok X G (c.fact 23 (f := .glo "_law_same") rfl)) fun _ _ _ _ _ _ us hl => match us, hl with | [_, _], _ => rfl) 24
  have c__law_same := kfN F__law_same_ k__law_same (He.glo_ok X G (c.fact 23 (f := .glo "_law_same") rfl)) fun _ _ _ _ _ _ us hl => match us, hl with | [_, _], _ => rfl
  have k__law_plan_holds := ok__law_plan_holds (P := P) (w := w) (mg := mg) (base := base) B F__law_plan_holds_ c__law_ask c__law_buds c__law_by_reads c__law_reads c__law_same c__law_writes c_bases_from c_cut_of c_cut_of_kw0_0 c_is_line_plan c_joined_plans c_line_reads c_line_reads_kw0_0 c_line_writes c_line_writes_kw0_0 c_mirrored c_parts_of c_parts_of_kw0_0 c_track_of c_turns_of
  have c__law_plan_holds := kfN F__law_plan_holds_ k__law_plan_holds (He.glo_ok X G (c.fact 34 (f := .glo "_law_plan_holds") rfl)) fun _ _ _ _ _ _ us hl => match us, hl with | [_], _ => rfl
  have k__law_sign_holds := ok__law_sign_holds (P := P) (w := w) (mg := mg) (base := base) F__law_sign_holds_ c__law_ask c__law_buds c__law_by_reads c__law_same c_is_track c_track_of
  have c__law_sign_holds := kfN F__law_sign_holds_ k__law_sign_holds (He.glo_ok X G (c.fact 35 (f := .glo "_law_sign_holds") rfl)) fun _ _ _ _ _ _ us hl => match us, hl with | [_], _ => rfl
  have k__law_refused := ok__law_refused (P := P) (w := w) (mg := mg) (base := base) B F__law_refused_ c__law_ask c__law_ask_two c__law_same c_is_line_plan c_is_track
  have c__law_refused := kfN F__law_refused_ k__law_refused (He.glo_ok X G (c.fact 36 (f := .glo "_law_refused") rfl)) fun _ _ _ _ _ _ us hl => match us, hl with | [_, _], _ => rfl
  have k__law_far_told := ok__law_far_told (P := P) (w := w) (mg := mg) (base := base) F__law_far_told_ c__law_plan c__law_same c__law_take c_is_line_plan c_is_track
  have c__law_far_told := kfN F__law_far_told_ k__law_far_told (He.glo_ok X G (c.fact 38 (f := .glo "_law_far_told") rfl)) fun _ _ _ _ _ _ us hl => match us, hl with | [_], _ => rfl
  have k__law_bent_holds := ok__law_bent_holds (P := P) (w := w) (mg := mg) (base := base) B F__law_bent_holds_ c__law_ask c__law_is_plan c__law_plan_holds c__law_same c__law_take c_is_line_plan
  have c__law_bent_holds := kfN F__law_bent_holds_ k__law_bent_holds (He.glo_ok X G (c.fact 37 (f := .glo "_law_bent_holds") rfl)) fun _ _ _ _ _ _ us hl => match us, hl with | [_, _], _ => rfl
  have k_law := ok_law (P := P) (w := w) (mg := mg) (base := base) F_law_ c__law_bent_holds c__law_by_reads c__law_far_told c__law_hand c__law_plan c__law_plan_holds c__law_reads c__law_refused c__law_same c__law_sign c__law_sign_holds c__law_spoilt c__law_take c_bases_from_kw0_0 c_is_line_plan_kw0_0 c_is_track_kw0_0 c_joined_plans c_joined_plans_kw0_1_0 c_mirrored c_mirrored_kw0_0 c_track_of c_track_of_kw0_0 c_turns_of c_turns_of_kw0_0
  exact law_imp k_law
end K24
open PySem PySem.W PySem.Calls PyProof.Rows
theorem PySem.Challenge.cw_sincemarks_k24_tracks_turns_mirror_holds : PySem.Challenge.rw_sincemarks_k24_tracks_turns_mirror.Holds := by
  w_on; o_law
  refine HandSHeadRun.head_any (r := OpenLaw.row PySem.Challenge.rw_sincemarks_k24_tracks_turns_mirror) (q := view (OpenLaw.row PySem.Challenge.rw_sincemarks_k24_tracks_turns_mirror).prog [48]) (H := K24.hk) (ob := K24.ob) (M := 6000) (loose := K24.names) (d := HandSHeadRun.topDef (OpenLaw.row PySem.Challenge.rw_sincemarks_k24_tracks_turns_mirror).prog 48) (kwd := []) K24.ob_eq
    (by kernel_rfl) (fun s => by kernel_rfl) K24.run (by kernel_rfl) (by kernel_rfl) (by kernel_rfl) (by rfl) (by first | assumption | decide +kernel) (by decide +kernel) ⟨rfl, rfl, rfl, rfl, rfl, by decide +kernel⟩ ?hw ?hc
  case hw => w_witness2
  case hc =>
    refine L2.walk_ofE (l := PySem.Challenge.rw_sincemarks_k24_tracks_turns_mirror) (n := 63) (k := K24.level) (x := "_law_script") (CX := L2.CX0) rfl (by decide) (by kernel_rfl) ⟨rfl, by decide, by decide⟩ ?F (fun _ _ _ _ z => z)
    intro w mg fa h Y G hmg0
    obtain ⟨K, KX, c⟩ := Y
    have hmg : mg ("law" : PySem.Str) = some (.ref fa) := by
      have e : (HandSHeadRun.topDef (OpenLaw.row PySem.Challenge.rw_sincemarks_k24_tracks_turns_mirror).prog 48).name = ("law" : PySem.Str) := by kernel_rfl
      rw [← e]
      exact hmg0
    obtain ⟨fd, hb, hF⟩ := K24.facts (P := (PySem.Challenge.rw_sincemarks_k24_tracks_turns_mirror).prog) (w := w) KX G hmg c
    exact ⟨K, fd, K24.spLaw K, KX, hb, fun H a ns hl _ hS => ⟨a, ns, rfl, hS, hl, fun _ => rfl⟩, hF⟩
